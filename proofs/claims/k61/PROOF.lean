import PyProof.Rows.All
import Wide.All
import OpenK.AllK
import Wide.FinOn
import HandS.ForMost
import HandS.Zip
import HandS.Walk
import HandS.Gcd
import HandS.Wide
import HandS.IsInst
import HandS.Flow
import HandS.Style
import HandS.TupMul
import HandS.TupAny
import HandS.Evl
import KE.KDictKeyed
import KE.KDictWalk
import KE.SortData
import KE.KDictSum
import HandS.Defaults
import PyProof.WalksMore
import KE.KTupSum
import KE.KTurns
import KE.GoesMore
import KE.GoesEnum
import KE.GoesZip
import HandS.More
import KE.SortCalls
import HandS.Head3
import HandS.HeadHook1
import HandS.HeadHook2
import HandS.HeadHook4
import HandS.Star
import KE.KDictZip
import HandS.Iter
import HandS.Lambda
import HandS.TupSets
import KE.KeyNested
import KE.SortKeyed
import HandS.Nested
import HandS.SortKw
import KE.KDictCopyH
import KE.KStateDown
import HandS.EndTab
import HandS.HeadWalk
import HandS.Head0
import HandS.Head1
import HandS.Head2
import HandS.HeadEnd
import HandS.HeadHook3
import PySem.Challenge.RW_everysource_k61_whole_means_over_and_nou
set_option Elab.async false
set_option linter.all false
section S_NbA
set_option Elab.async false
set_option linter.all false
set_option maxRecDepth 100000
set_option maxHeartbeats 4000000
namespace NB
open PySem PySem.Spec PyProof.Rows L2
open Evl (Ex EvT)

/-! ### data over the abstract heap: lists are tracked themselves -/
mutual
inductive Dt (K : PySem.W.Frag) (H : Hp) : V → PyData → Prop
  | non : Dt K H .non .none
  | bl (b : Bool) : Dt K H (.bl b) (.bool b)
  | int (i : Int) : Dt K H (.int i) (.int i)
  | lst {a : Addr} {xs : List V} {ds : List PyData} : H a = some (.lst xs) → DtA K H xs ds → Dt K H (.ref a) (.list ds)
  | tup {a : Addr} {xs : List V} {ds : List PyData} : SqT K H a xs → DtA K H xs ds → Dt K H (.ref a) (.tuple ds)
inductive DtA (K : PySem.W.Frag) (H : Hp) : List V → List PyData → Prop
  | nil : DtA K H [] []
  | cons {v : V} {vs : List V} {d : PyData} {ds : List PyData} : Dt K H v d → DtA K H vs ds → DtA K H (v :: vs) (d :: ds)
end

theorem _root_.Evl.Ex.back {H H' : Hp} {p : Addr} (e : Ex H H') (h : H' p = none) : H p = none := Evl.fresh_back e h
theorem _root_.Evl.Ex.rd {H H' : Hp} {a : Addr} {u : HO} (e : Ex H H') (h : Rd H a u) : Rd H' a u := Evl.ex_rd e h
theorem _root_.Evl.Ex.sqt {K : PySem.W.Frag} {H H' : Hp} {a : Addr} {xs : List V} (e : Ex H H') (h : SqT K H a xs) : SqT K H' a xs := Evl.ex_t e h
theorem _root_.Evl.Ex.sql {K : PySem.W.Frag} {H H' : Hp} {a : Addr} {xs : List V} (e : Ex H H') (h : SqL K H a xs) : SqL K H' a xs := Evl.ex_l e h

/-- what may be written: rows, dicts, sets, and the tables of code -/
def MutT : Option HO → Prop
  | some (.lst _) => True
  | some (.dK _) => True
  | some (.dT _) => True
  | some (.set _ _) => True
  | some (.ins _ _ _) => True
  | some (.ext _) => True
  | some (.tbl _) => True
  | _ => False
/-- what is not to be written is kept -/
def Tk (H H' : Hp) : Prop := ∀ a o, ¬ MutT (some o) → H a = some o → H' a = some o
theorem Tk.refl (H : Hp) : Tk H H := fun _ _ _ h => h
theorem Tk.trans {H H1 H2 : Hp} (a : Tk H H1) (b : Tk H1 H2) : Tk H H2 := fun x o m h => b x o m (a x o m h)
theorem _root_.Evl.Ex.tk {H H' : Hp} (e : Ex H H') : Tk H H' := fun a o _ h => e a o h
theorem Tk.new {H : Hp} {p : Addr} {o : HO} (h : H p = none) : Tk H (upd H p o) := (Ex.new h).tk
theorem Tk.mut {H : Hp} {p : Addr} {o u : HO} (h : H p = some u) (m : MutT (some u)) : Tk H (upd H p o) := fun a v nm e => by
  have : a ≠ p := fun z => by subst z; rw [h] at e; cases e; exact nm m
  rw [upd_ne this]; exact e
theorem Tk.sqt {K : PySem.W.Frag} {H H' : Hp} {a : Addr} {xs : List V} (e : Tk H H') (h : SqT K H a xs) : SqT K H' a xs := by
  rcases h with (h | ⟨o, h⟩) | h
  · exact .inl (.inl (e a _ (fun z => z) h))
  · exact .inl (.inr ⟨o, e a _ (fun z => z) h⟩)
  · exact .inr h

/-- no list within -/
def im : PyData → Bool
  | .list _ => false
  | .dict _ => false
  | .tuple ds => imA ds
  | _ => true
where imA : List PyData → Bool
  | [] => true
  | d :: ds => im d && imA ds
abbrev imA := im.imA
theorem imA_all : ∀ ds : List PyData, imA ds = ds.all im
  | [] => rfl
  | d :: ds => by
    show (im d && imA ds) = _
    rw [imA_all ds]; rfl

section
variable {K : PySem.W.Frag} {H H' : Hp}
mutual
theorem Dt.ex (e : Ex H H') : ∀ (d : PyData) (v : V), Dt K H v d → Dt K H' v d
  | .none, _, h => by cases h; exact .non
  | .bool b, _, h => by cases h; exact .bl b
  | .int i, _, h => by cases h; exact .int i
  | .str x, _, h => by cases h
  | .list ds, _, h => by cases h with | lst h1 h2 => exact .lst (e _ _ h1) (DtA.ex e ds _ h2)
  | .tuple ds, _, h => by cases h with | tup h1 h2 => exact .tup (e.sqt h1) (DtA.ex e ds _ h2)
  | .dict _, _, h => by cases h
theorem DtA.ex (e : Ex H H') : ∀ (ds : List PyData) (vs : List V), DtA K H vs ds → DtA K H' vs ds
  | [], _, h => by cases h; exact .nil
  | d :: ds, _, h => by cases h with | cons h1 h2 => exact .cons (Dt.ex e d _ h1) (DtA.ex e ds _ h2)
end
mutual
theorem Dt.tk (e : Tk H H') : ∀ (d : PyData) (v : V), im d = true → Dt K H v d → Dt K H' v d
  | .none, _, _, h => by cases h; exact .non
  | .bool b, _, _, h => by cases h; exact .bl b
  | .int i, _, _, h => by cases h; exact .int i
  | .str x, _, _, h => by cases h
  | .list ds, _, m, h => by cases m
  | .tuple ds, _, m, h => by cases h with | tup h1 h2 => exact .tup (e.sqt h1) (DtA.tk e ds _ m h2)
  | .dict _, _, _, h => by cases h
theorem DtA.tk (e : Tk H H') : ∀ (ds : List PyData) (vs : List V), imA ds = true → DtA K H vs ds → DtA K H' vs ds
  | [], _, _, h => by cases h; exact .nil
  | d :: ds, _, m, h => by
    have m' : (im d && imA ds) = true := m
    rw [Bool.and_eq_true] at m'
    cases h with | cons h1 h2 => exact .cons (Dt.tk e d _ m'.1 h1) (DtA.tk e ds _ m'.2 h2)
end
mutual
theorem Dt.dp : ∀ (d : PyData) (v : V), Dt K H v d → Dp K H v d
  | .none, _, h => by cases h; exact .non
  | .bool b, _, h => by cases h; exact .bl b
  | .int i, _, h => by cases h; exact .int i
  | .str x, _, h => by cases h
  | .list ds, _, h => by cases h with | lst h1 h2 => exact .lst (SqL.of h1) (DtA.dp ds _ h2)
  | .tuple ds, _, h => by cases h with | tup h1 h2 => exact .tup h1 (DtA.dp ds _ h2)
  | .dict _, _, h => by cases h
theorem DtA.dp : ∀ (ds : List PyData) (vs : List V), DtA K H vs ds → DpAll K H vs ds
  | [], _, h => by cases h; exact .nil
  | d :: ds, _, h => by cases h with | cons h1 h2 => exact .cons (Dt.dp d _ h1) (DtA.dp ds _ h2)
end
theorem DtA.len : ∀ {ds : List PyData} {vs : List V}, DtA K H vs ds → vs.length = ds.length
  | [], _, h => by cases h; rfl
  | d :: ds, _, h => by cases h with | cons h1 h2 => rw [List.length_cons, List.length_cons, DtA.len h2]
theorem DtA.get : ∀ {ds : List PyData} {vs : List V} {i : Nat} {v : V}, DtA K H vs ds → vs[i]? = some v → ∃ d, ds[i]? = some d ∧ Dt K H v d
  | [], _, i, v, h, e => by cases h; simp at e
  | d :: ds, _, 0, v, h, e => by cases h with | cons h1 h2 => simp at e; subst e; exact ⟨d, rfl, h1⟩
  | d :: ds, _, i + 1, v, h, e => by cases h with | cons h1 h2 => exact DtA.get (ds := ds) (i := i) h2 (by simpa using e)
theorem DtA.at : ∀ {ds : List PyData} {vs : List V} {i : Nat} {d : PyData}, DtA K H vs ds → ds[i]? = some d → ∃ v, vs[i]? = some v ∧ Dt K H v d
  | [], _, i, v, h, e => by simp at e
  | d :: ds, _, 0, v, h, e => by cases h with | cons h1 h2 => simp at e; subst e; exact ⟨_, rfl, h1⟩
  | d :: ds, _, i + 1, v, h, e => by cases h with | cons h1 h2 => exact DtA.at (ds := ds) (i := i) h2 (by simpa using e)
theorem DtA.app : ∀ {ds es : List PyData} {vs ws : List V}, DtA K H vs ds → DtA K H ws es → DtA K H (vs ++ ws) (ds ++ es)
  | [], _, _, _, h, g => by cases h; exact g
  | d :: ds, _, _, _, h, g => by cases h with | cons h1 h2 => exact .cons h1 (DtA.app h2 g)
theorem DtA.one {v : V} {d : PyData} (h : Dt K H v d) : DtA K H [v] [d] := .cons h .nil
theorem DtA.rep {v : V} {d : PyData} (h : Dt K H v d) : ∀ n : Nat, DtA K H (List.replicate n v) (List.replicate n d)
  | 0 => .nil
  | n + 1 => .cons h (DtA.rep h n)
theorem DtA.drop : ∀ {ds : List PyData} {vs : List V} (n : Nat), DtA K H vs ds → DtA K H (vs.drop n) (ds.drop n)
  | _, _, 0, h => h
  | [], _, n + 1, h => by cases h; exact .nil
  | d :: ds, _, n + 1, h => by cases h with | cons h1 h2 => exact DtA.drop n h2
theorem DtA.take : ∀ {ds : List PyData} {vs : List V} (n : Nat), DtA K H vs ds → DtA K H (vs.take n) (ds.take n)
  | _, _, 0, _ => .nil
  | [], _, n + 1, h => by cases h; exact .nil
  | d :: ds, _, n + 1, h => by cases h with | cons h1 h2 => exact .cons h1 (DtA.take n h2)
theorem DtA.set : ∀ {ds : List PyData} {vs : List V} {v : V} {d : PyData} (n : Nat), Dt K H v d → DtA K H vs ds → DtA K H (vs.set n v) (ds.set n d)
  | [], _, _, _, _, _, h => by cases h; exact .nil
  | d :: ds, _, _, _, 0, g, h => by cases h with | cons h1 h2 => exact .cons g h2
  | d :: ds, _, _, _, n + 1, g, h => by cases h with | cons h1 h2 => exact .cons h1 (DtA.set n g h2)
theorem dt_int {v : V} {i : Int} (h : Dt K H v (.int i)) : v = .int i := by cases h; rfl
theorem dt_bool {v : V} {b : Bool} (h : Dt K H v (.bool b)) : v = .bl b := by cases h; rfl
theorem dt_tup {v : V} {ds : List PyData} (h : Dt K H v (.tuple ds)) : ∃ a xs, v = .ref a ∧ SqT K H a xs ∧ DtA K H xs ds := by
  cases h with | tup h1 h2 => exact ⟨_, _, rfl, h1, h2⟩
theorem dt_lst {v : V} {ds : List PyData} (h : Dt K H v (.list ds)) : ∃ a xs, v = .ref a ∧ H a = some (.lst xs) ∧ DtA K H xs ds := by
  cases h with | lst h1 h2 => exact ⟨_, _, rfl, h1, h2⟩
end

/-! ### what evaluates to what -/
def EvD (K : PySem.W.Frag) (te : TE) (σ : L2.St) (H : Hp) (d : PyData) : Prop := ∀ H1, Ex H H1 → ∀ Q : VK, (∀ v H2, Ex H1 H2 → Dt K H2 v d → Q v H2) → te σ H1 Q
/-- a new list -/
def EvN (K : PySem.W.Frag) (te : TE) (σ : L2.St) (H : Hp) (ds : List PyData) : Prop := ∀ H1, Ex H H1 → ∀ Q : VK, (∀ p xs H2, H1 p = none → Ex H1 H2 → H2 p = some (.lst xs) → DtA K H2 xs ds → Q (.ref p) H2) → te σ H1 Q
def EvA (K : PySem.W.Frag) (ta : TA) (σ : L2.St) (H : Hp) (ds : List PyData) : Prop := ∀ H1, Ex H H1 → ∀ Q : List V → Hp → Prop, (∀ vs H2, Ex H1 H2 → DtA K H2 vs ds → Q vs H2) → ta σ H1 Q
/-- operators, calls, on values -/
def RD (K : PySem.W.Frag) (r : R2) (H : Hp) (x y : V) (d : PyData) : Prop := ∀ H1, Ex H H1 → ∀ Q : VK, (∀ v H2, Ex H1 H2 → Dt K H2 v d → Q v H2) → r x y H1 Q
def RDD (K : PySem.W.Frag) (r : R2) (a b d : PyData) : Prop := ∀ H x y, Dt K H x a → Dt K H y b → ∀ Q : VK, (∀ v H2, Ex H H2 → Dt K H2 v d → Q v H2) → r x y H Q
def RCD (K : PySem.W.Frag) (r : List V → Hp → VK → Prop) (as : List PyData) (d : PyData) : Prop := ∀ H xs, DtA K H xs as → ∀ Q : VK, (∀ v H2, Ex H H2 → Dt K H2 v d → Q v H2) → r xs H Q
def RCN (K : PySem.W.Frag) (r : List V → Hp → VK → Prop) (as ds : List PyData) : Prop := ∀ H xs, DtA K H xs as → ∀ Q : VK, (∀ p ys H2, H p = none → Ex H H2 → H2 p = some (.lst ys) → DtA K H2 ys ds → Q (.ref p) H2) → r xs H Q
def RUD (K : PySem.W.Frag) (r : V → Hp → VK → Prop) (a d : PyData) : Prop := ∀ H x, Dt K H x a → ∀ Q : VK, (∀ v H2, Ex H H2 → Dt K H2 v d → Q v H2) → r x H Q

section
variable {K : PySem.W.Frag} {σ : L2.St} {H H' : Hp} {ta tb te : TE} {t u : TT} {v : V} {d a b : PyData} {ds es : List PyData}
theorem EvD.mono (e : Ex H H') (h : EvD K te σ H d) : EvD K te σ H' d := fun H1 x Q q => h H1 (e.trans x) Q q
theorem EvN.mono (e : Ex H H') (h : EvN K te σ H ds) : EvN K te σ H' ds := fun H1 x Q q => h H1 (e.trans x) Q q
theorem EvA.mono {ta : TA} (e : Ex H H') (h : EvA K ta σ H ds) : EvA K ta σ H' ds := fun H1 x Q q => h H1 (e.trans x) Q q
theorem EvN.dat (h : EvN K te σ H ds) : EvD K te σ H (.list ds) := fun H1 e Q q => h H1 e Q fun p xs H2 _ e2 hp hd => q _ H2 e2 (.lst hp hd)
theorem ev_var {i : Nat} (h : σ[i]? = some (some v)) (hd : Dt K H v d) : EvD K (tVar i) σ H d := fun H1 e Q q => ⟨v, h, q v H1 (Ex.refl _) (Dt.ex e _ _ hd)⟩
theorem ev_c (hd : Dt K H v d) : EvD K (tC v) σ H d := fun H1 e Q q => q v H1 (Ex.refl _) (Dt.ex e _ _ hd)
theorem ev_int {i : Int} : EvD K (tC (.int i)) σ H (.int i) := ev_c (.int i)
theorem ev_bl {b : Bool} : EvD K (tC (.bl b)) σ H (.bool b) := ev_c (.bl b)
theorem ev_non : EvD K (tC .non) σ H .none := ev_c .non
theorem ev_op {r : R2} (ha : EvD K ta σ H a) (hb : EvD K tb σ H b) (hr : RDD K r a b d) : EvD K (tOp r ta tb) σ H d := fun H1 e Q q =>
  ha H1 e _ fun x H2 e2 hx => hb H2 (e.trans e2) _ fun y H3 e3 hy => hr H3 x y (Dt.ex e3 _ _ hx) hy Q fun v H4 e4 hv => q v H4 ((e2.trans e3).trans e4) hv
theorem ev_un {r : V → Hp → VK → Prop} (ha : EvD K ta σ H a) (hr : RUD K r a d) : EvD K (tUn r ta) σ H d := fun H1 e Q q =>
  ha H1 e _ fun x H2 e2 hx => hr H2 x hx Q fun v H3 e3 hv => q v H3 (e2.trans e3) hv
theorem ea_nil : EvA K tNil σ H [] := fun H1 _ _ q => q [] H1 (Ex.refl _) .nil
theorem ea_cons {tr : TA} (h : EvD K ta σ H a) (hr : EvA K tr σ H ds) : EvA K (tCons ta tr) σ H (a :: ds) := fun H1 e _ q =>
  h H1 e _ fun x H2 e2 hx => hr H2 (e.trans e2) _ fun xs H3 e3 hxs => q (x :: xs) H3 (e2.trans e3) (.cons (Dt.ex e3 _ _ hx) hxs)
theorem ev_tup {ta : TA} (h : EvA K ta σ H ds) (hl : ds.length ≤ 100000) : EvD K (tTup ta) σ H (.tuple ds) := fun H1 e _ q =>
  h H1 e _ fun xs H2 e2 hx => ⟨by rw [hx.len]; exact Nat.le_trans hl (by decide), fun p hp => q _ _ (e2.trans (Ex.new hp)) (.tup (SqT.of upd_same) (DtA.ex (Ex.new hp) _ _ hx))⟩
theorem en_lst {ta : TA} (h : EvA K ta σ H ds) (hl : ds.length ≤ 100000) : EvN K (tLst ta) σ H ds := fun H1 e _ q =>
  h H1 e _ fun xs H2 e2 hx => ⟨by rw [hx.len]; exact Nat.le_trans hl (by decide), fun p hp => q p xs _ (e2.back hp) (e2.trans (Ex.new hp)) upd_same (DtA.ex (Ex.new hp) _ _ hx)⟩
theorem ev_cb {r : List V → Hp → VK → Prop} {ta : TA} (h : EvA K ta σ H ds) (hr : RCD K r ds d) : EvD K (tCB r ta) σ H d := fun H1 e Q q =>
  h H1 e _ fun xs H2 e2 hx => hr H2 xs hx Q fun v H3 e3 hv => q v H3 (e2.trans e3) hv
theorem en_cb {r : List V → Hp → VK → Prop} {ta : TA} (h : EvA K ta σ H ds) (hr : RCN K r ds es) : EvN K (tCB r ta) σ H es := fun H1 e Q q =>
  h H1 e _ fun xs H2 e2 hx => hr H2 xs hx Q fun p ys H3 hp e3 h3 hy => q p ys H3 (e2.back hp) (e2.trans e3) h3 hy

/-! tests -/
theorem et_test {b : Bool} (h : EvD K te σ H (.bool b)) : EvT (tTest te) σ H b := fun H1 e _ q => h H1 e _ fun v H2 e2 hv => ⟨b, dt_bool hv, q H2 e2⟩
theorem et_B {b : Bool} (h : EvD K te σ H (.bool b)) : EvT (tB te) σ H b := fun H1 e _ q => h H1 e _ fun v H2 e2 hv => ⟨b, dt_bool hv, q H2 e2⟩
theorem et_yes : EvT tYes σ H true := fun H1 _ _ q => q H1 (Ex.refl _)
theorem ev_if {c : Bool} (h : EvT t σ H c) (h1 : c = true → EvD K ta σ H d) (h2 : c = false → EvD K tb σ H d) : EvD K (tIf t ta tb) σ H d := fun H1 e Q q => h H1 e _ fun H2 e2 => by
  cases c with
  | true => show ta σ H2 Q; exact h1 rfl H2 (e.trans e2) Q fun v H3 e3 => q v H3 (e2.trans e3)
  | false => show tb σ H2 Q; exact h2 rfl H2 (e.trans e2) Q fun v H3 e3 => q v H3 (e2.trans e3)
theorem en_if {c : Bool} (h : EvT t σ H c) (h1 : c = true → EvN K ta σ H ds) (h2 : c = false → EvN K tb σ H ds) : EvN K (tIf t ta tb) σ H ds := fun H1 e Q q => h H1 e _ fun H2 e2 => by
  cases c with
  | true => show ta σ H2 Q; exact h1 rfl H2 (e.trans e2) Q fun p xs H3 hp e3 => q p xs H3 (e2.back hp) (e2.trans e3)
  | false => show tb σ H2 Q; exact h2 rfl H2 (e.trans e2) Q fun p xs H3 hp e3 => q p xs H3 (e2.back hp) (e2.trans e3)
theorem ev_andV {a b : Bool} (h1 : EvD K ta σ H (.bool a)) (h2 : a = true → EvD K tb σ H (.bool b)) : EvD K (tAndV ta tb) σ H (.bool (a && b)) := fun H1 e Q q => h1 H1 e _ fun v H2 e2 hv => ⟨a, dt_bool hv, by
  cases a with
  | true => show tb σ H2 Q; exact h2 rfl H2 (e.trans e2) Q fun w H3 e3 => q w H3 (e2.trans e3)
  | false => show Q (.bl false) H2; exact q _ H2 e2 (.bl _)⟩
theorem ev_notV {a : Bool} (h1 : EvD K ta σ H (.bool a)) : EvD K (tNotV ta) σ H (.bool (!a)) := fun H1 e _ q => h1 H1 e _ fun v H2 e2 hv => ⟨a, dt_bool hv, q _ H2 e2 (.bl _)⟩
theorem EvD.is (h : EvD K te σ H a) (e : a = b) : EvD K te σ H b := e ▸ h
theorem EvN.is (h : EvN K te σ H ds) (e : ds = es) : EvN K te σ H es := e ▸ h
theorem _root_.Evl.EvT.is {a b : Bool} (h : EvT t σ H a) (e : a = b) : EvT t σ H b := e ▸ h

/-! operators on data -/
theorem rd_I0 {g : Int → Int → Int} {i j : Int} : RDD K (rI0 fun i j => .int (g i j)) (.int i) (.int j) (.int (g i j)) := fun H x y hx hy Q q => ⟨i, j, dt_int hx, dt_int hy, q _ H (Ex.refl _) (.int _)⟩
theorem rd_B0 {g : Int → Int → Bool} {i j : Int} : RDD K (rI0 fun i j => .bl (g i j)) (.int i) (.int j) (.bool (g i j)) := fun H x y hx hy Q q => ⟨i, j, dt_int hx, dt_int hy, q _ H (Ex.refl _) (.bl _)⟩
theorem rd_I {C : Int → Int → Prop} {g : Int → Int → Int} {i j : Int} (hc : C i j) : RDD K (rI C fun i j => .int (g i j)) (.int i) (.int j) (.int (g i j)) := fun H x y hx hy Q q => ⟨i, j, dt_int hx, dt_int hy, hc, q _ H (Ex.refl _) (.int _)⟩
theorem ru_I {g : Int → Int} {i : Int} : RUD K (rU fun i => .int (g i)) (.int i) (.int (g i)) := fun H x hx Q q => ⟨i, dt_int hx, q _ H (Ex.refl _) (.int _)⟩
theorem rd_eqD (ha : SeqAt.shaped a = true) (hb : SeqAt.shaped b = true) : RDD K (rEqD K) a b (.bool (PyData.eqv a b)) := fun H x y hx hy Q q => ⟨a, b, Dt.dp _ _ hx, Dt.dp _ _ hy, ha, hb, q _ H (Ex.refl _) (.bl _)⟩
theorem rd_neD (ha : SeqAt.shaped a = true) (hb : SeqAt.shaped b = true) : RDD K (rNeD K) a b (.bool (!PyData.eqv a b)) := fun H x y hx hy Q q => ⟨a, b, Dt.dp _ _ hx, Dt.dp _ _ hy, ha, hb, q _ H (Ex.refl _) (.bl _)⟩
theorem rd_cat (hl : ds.length + es.length ≤ 100000) : RDD K rCat (.list ds) (.list es) (.list (ds ++ es)) := fun H x y hx hy Q q => by
  obtain ⟨p, xs, rfl, hp, hxs⟩ := dt_lst hx
  obtain ⟨p2, ys, rfl, hp2, hys⟩ := dt_lst hy
  exact ⟨p, p2, xs, ys, rfl, rfl, hp, hp2, by rw [hxs.len, hys.len]; exact Nat.le_trans hl (by decide), fun z hz => q _ _ (Ex.new hz) (.lst upd_same (DtA.ex (Ex.new hz) _ _ (hxs.app hys)))⟩
end
end NB
end S_NbA

section S_NbB
set_option Elab.async false
set_option linter.all false
set_option maxRecDepth 100000
set_option maxHeartbeats 4000000
namespace NB
open PySem PySem.Spec PyProof.Rows L2
open Evl (Ex)

/-! ### assoc lists -/
section
variable {κ ν : Type} [DecidableEq κ]
def lk : List (κ × ν) → κ → Option ν
  | [], _ => none
  | (a, v) :: r, k => if a = k then some v else lk r k
def put : List (κ × ν) → κ → ν → List (κ × ν)
  | [], k, v => [(k, v)]
  | (a, w) :: r, k, v => if a = k then (a, v) :: r else (a, w) :: put r k v
theorem lk_put (k : κ) (v : ν) : ∀ (d : List (κ × ν)) (j : κ), lk (put d k v) j = if k = j then some v else lk d j
  | [], j => rfl
  | (a, w) :: r, j => by
    unfold put
    by_cases h : a = k
    · rw [if_pos h]
      subst h
      unfold lk
      by_cases h2 : a = j
      · rw [if_pos h2, if_pos h2]
      · rw [if_neg h2, if_neg h2, if_neg h2]
    · rw [if_neg h]
      unfold lk
      by_cases h2 : a = j
      · rw [if_pos h2, if_pos h2, if_neg (fun e => h (h2.trans e.symm))]
      · rw [if_neg h2, if_neg h2]
        exact lk_put k v r j
theorem keys_put (k : κ) (v : ν) : ∀ (d : List (κ × ν)), (put d k v).map (·.1) = if k ∈ d.map (·.1) then d.map (·.1) else d.map (·.1) ++ [k]
  | [] => by simp [put]
  | (a, w) :: r => by
    have ih := keys_put k v r
    unfold put
    by_cases h : a = k
    · rw [if_pos h]
      subst h
      simp
    · rw [if_neg h]
      have h' : ¬ k = a := fun e => h e.symm
      by_cases hm : k ∈ r.map (·.1)
      · rw [if_pos hm] at ih
        rw [List.map_cons, List.map_cons, ih, if_pos (List.mem_cons_of_mem _ hm)]
      · rw [if_neg hm] at ih
        rw [List.map_cons, List.map_cons, ih, if_neg (by rw [List.mem_cons]; rintro (e | e); exact h' e; exact hm e)]
        rfl
theorem nodup_put {d : List (κ × ν)} (h : (d.map (·.1)).Nodup) (k : κ) (v : ν) : ((put d k v).map (·.1)).Nodup := by
  rw [keys_put]
  by_cases hm : k ∈ d.map (·.1)
  · rw [if_pos hm]; exact h
  · rw [if_neg hm, List.nodup_append]
    refine ⟨h, by simp, fun a ha b hb => ?_⟩
    rw [List.mem_singleton] at hb
    subst hb
    exact fun e => hm (e ▸ ha)
theorem lk_mem {d : List (κ × ν)} {k : κ} : (lk d k).isSome = true ↔ k ∈ d.map (·.1) := by
  induction d with
  | nil => simp [lk]
  | cons p r ih =>
    obtain ⟨a, v⟩ := p
    unfold lk
    by_cases h : a = k
    · rw [if_pos h]; simp [h]
    · rw [if_neg h, ih]
      rw [List.map_cons, List.mem_cons]
      exact ⟨.inr, fun q => q.resolve_left fun e => h e.symm⟩
theorem lk_none {d : List (κ × ν)} {k : κ} : lk d k = none ↔ k ∉ d.map (·.1) := by
  rw [← lk_mem]
  cases lk d k <;> simp
theorem lk_some_mem {d : List (κ × ν)} {k : κ} {v : ν} (h : lk d k = some v) : (k, v) ∈ d := by
  induction d with
  | nil => simp [lk] at h
  | cons p r ih =>
    obtain ⟨a, w⟩ := p
    unfold lk at h
    by_cases e : a = k
    · rw [if_pos e] at h
      cases h; subst e; exact List.mem_cons_self
    · rw [if_neg e] at h
      exact List.mem_cons_of_mem _ (ih h)
theorem lk_of_mem {d : List (κ × ν)} (hn : (d.map (·.1)).Nodup) {k : κ} {v : ν} (h : (k, v) ∈ d) : lk d k = some v := by
  induction d with
  | nil => cases h
  | cons p r ih =>
    obtain ⟨a, w⟩ := p
    rw [List.map_cons, List.nodup_cons] at hn
    unfold lk
    rcases List.mem_cons.mp h with e | h'
    · cases e; rw [if_pos rfl]
    · rw [if_neg (fun e => hn.1 (by rw [e]; exact List.mem_map.mpr ⟨_, h', rfl⟩))]
      exact ih hn.2 h'
theorem len_put (d : List (κ × ν)) (k : κ) (v : ν) : (put d k v).length ≤ d.length + 1 := by
  have h := congrArg List.length (keys_put k v d)
  rw [List.length_map] at h
  rw [h]
  split
  · rw [List.length_map]; omega
  · rw [List.length_append, List.length_map]; exact Nat.le_refl _
end

/-! ### keys -/
mutual
def pd : PyData → Bool
  | .int _ => true
  | .tuple ds => pdA ds
  | _ => false
def pdA : List PyData → Bool
  | [] => true
  | d :: ds => pd d && pdA ds
end
mutual
def nk : PyData → NestedKey
  | .int i => .num i
  | .tuple ds => .tup (nkA ds)
  | _ => .none
def nkA : List PyData → List NestedKey
  | [] => []
  | d :: ds => nk d :: nkA ds
end
mutual
theorem pd_im : ∀ d : PyData, pd d = true → im d = true
  | .int _, _ => rfl
  | .tuple ds, h => pdA_im ds (by rw [pd] at h; exact h)
  | .none, h => by simp [pd] at h
  | .bool _, h => by simp [pd] at h
  | .str _, h => by simp [pd] at h
  | .list _, h => by simp [pd] at h
  | .dict _, h => by simp [pd] at h
theorem pdA_im : ∀ ds : List PyData, pdA ds = true → imA ds = true
  | [], _ => rfl
  | d :: ds, h => by
    rw [pdA, Bool.and_eq_true] at h
    show (im d && imA ds) = true
    rw [pd_im d h.1, pdA_im ds h.2]; rfl
end
mutual
theorem nk_inj : ∀ a b : PyData, pd a = true → pd b = true → nk a = nk b → a = b
  | .int i, .int j, _, _, h => by
    simp only [nk] at h
    injection h with h; rw [h]
  | .tuple as, .tuple bs, ha, hb, h => by
    simp only [nk] at h
    injection h with h
    rw [nkA_inj as bs (by simpa [pd] using ha) (by simpa [pd] using hb) h]
  | .int i, .tuple bs, _, _, h => by simp [nk] at h
  | .tuple as, .int j, _, _, h => by simp [nk] at h
  | .none, _, h, _, _ => by simp [pd] at h
  | .bool _, _, h, _, _ => by simp [pd] at h
  | .str _, _, h, _, _ => by simp [pd] at h
  | .list _, _, h, _, _ => by simp [pd] at h
  | .dict _, _, h, _, _ => by simp [pd] at h
  | _, .none, _, h, _ => by simp [pd] at h
  | _, .bool _, _, h, _ => by simp [pd] at h
  | _, .str _, _, h, _ => by simp [pd] at h
  | _, .list _, _, h, _ => by simp [pd] at h
  | _, .dict _, _, h, _ => by simp [pd] at h
theorem nkA_inj : ∀ as bs : List PyData, pdA as = true → pdA bs = true → nkA as = nkA bs → as = bs
  | [], [], _, _, _ => rfl
  | a :: as, b :: bs, ha, hb, h => by
    rw [pdA, Bool.and_eq_true] at ha hb
    rw [nkA, nkA] at h
    injection h with h1 h2
    rw [nk_inj a b ha.1 hb.1 h1, nkA_inj as bs ha.2 hb.2 h2]
  | [], b :: bs, _, _, h => by simp [nkA] at h
  | a :: as, [], _, _, h => by simp [nkA] at h
end
section
variable {X : Cx} {pins : List (Addr × Obj)} {σ : L2.St} {H : Hp} {s : Shared}
mutual
theorem Dt.nested (I : Inv X pins σ H s) : ∀ (d : PyData) (v : V) (u : Value), pd d = true → Dt X.K H v d → RelV v u → NestedIs s.heap (nk d) u
  | .int i, v, u, _, h, r => by
    cases h
    obtain ⟨t, rfl⟩ := r
    rw [nk]; exact .int i t
  | .tuple ds, v, u, p, h, r => by
    cases h with
    | tup h1 h2 =>
      cases r
      obtain ⟨its, rv, ⟨o, ho, hc, n, hd⟩, _⟩ := I.tuple h1
      rw [nk]
      exact .tup ho hc hd (DtA.nested I ds _ _ (by simpa [pd] using p) h2 rv)
  | .none, _, _, p, _, _ => by simp [pd] at p
  | .bool _, _, _, p, _, _ => by simp [pd] at p
  | .str _, _, _, p, _, _ => by simp [pd] at p
  | .list _, _, _, p, _, _ => by simp [pd] at p
  | .dict _, _, _, p, _, _ => by simp [pd] at p
theorem DtA.nested (I : Inv X pins σ H s) : ∀ (ds : List PyData) (vs : List V) (us : List Value), pdA ds = true → DtA X.K H vs ds → Vals vs us → NestedAll s.heap (nkA ds) us
  | [], _, _, _, h, r => by cases h; cases r; rw [nkA]; exact .nil
  | d :: ds, _, _, p, h, r => by
    rw [pdA, Bool.and_eq_true] at p
    cases h with
    | cons h1 h2 =>
      cases r with
      | cons r1 r2 =>
        rw [nkA]
        exact .cons (Dt.nested I d _ _ p.1 h1 r1) (DtA.nested I ds _ _ p.2 h2 r2)
end
end

/-- data of a type that serve as keys -/
structure KeyE {κ : Type} (enc : κ → PyData) : Prop where
  inj : ∀ x y, enc x = enc y → x = y
  tup : ∀ x, ∃ ds, enc x = .tuple ds
  pd : ∀ x, pd (enc x) = true
  dep : ∀ x, (nk (enc x)).depth ≤ 8
theorem KeyE.im {κ : Type} {enc : κ → PyData} (E : KeyE enc) (x : κ) : im (enc x) = true := pd_im _ (E.pd x)
theorem KeyE.ninj {κ : Type} {enc : κ → PyData} (E : KeyE enc) {x y : κ} (h : nk (enc x) = nk (enc y)) : x = y := E.inj _ _ (nk_inj _ _ (E.pd x) (E.pd y) h)

/-! ### dicts with such keys, tracked -/
def DcO (P : Program) (w : World) (a : Addr) (xs : List (NestedKey × Addr × Value)) : HO := .ext fun h => xs.length ≤ sizeLine ∧ (a == sysModules) = false ∧
  ∃ o es ep, h.get? a = some o ∧ o.ExactDict ∧ o.data = .dict es ep ∧ es.toList = xs.map (entryOfKey (nestedKind P w)) ∧ (xs.map (·.1)).Nodup
structure DcR (K : PySem.W.Frag) (H : Hp) {κ : Type} (enc : κ → PyData) (p : κ × V) (x : NestedKey × Addr × Value) : Prop where
  key : x.1 = nk (enc p.1)
  dat : Dt K H (.ref x.2.1) (enc p.1)
  val : RelV p.2 x.2.2
def DcAt (P : Program) (w : World) (K : PySem.W.Frag) {κ : Type} (enc : κ → PyData) (H : Hp) (a : Addr) (kvs : List (κ × V)) : Prop :=
  ∃ xs, H a = some (DcO P w a xs) ∧ Paired (DcR K H enc) kvs xs
section
variable {P : Program} {w : World} {K : PySem.W.Frag} {κ : Type} {enc : κ → PyData} {H H' : Hp} {a : Addr} {kvs : List (κ × V)}
theorem DcAt.tk (E : KeyE enc) (e : Tk H H') (ha : ∀ o, H a = some o → H' a = some o) (d : DcAt P w K enc H a kvs) : DcAt P w K enc H' a kvs := by
  obtain ⟨xs, h1, h2⟩ := d
  exact ⟨xs, ha _ h1, Paired.mapP h2 fun p x r => ⟨r.key, Dt.tk e _ _ (E.im _) r.dat, r.val⟩⟩
theorem DcAt.ex (E : KeyE enc) (e : Ex H H') (d : DcAt P w K enc H a kvs) : DcAt P w K enc H' a kvs := d.tk E e.tk (e a)
theorem DcAt.mut (d : DcAt P w K enc H a kvs) : ∃ u, H a = some u ∧ MutT (some u) := by
  obtain ⟨xs, h1, _⟩ := d
  exact ⟨_, h1, trivial⟩
theorem DcAt.nelst (d : DcAt P w K enc H a kvs) {b : Addr} {ys : List V} (h : H b = some (.lst ys)) : a ≠ b := by
  obtain ⟨xs, h1, _⟩ := d
  exact ne_of h1 h (by unfold DcO; intro z; cases z)
variable [DecidableEq κ]
theorem atKey_rel (E : KeyE enc) {k : κ} : ∀ {kvs : List (κ × V)} {xs : List (NestedKey × Addr × Value)}, Paired (DcR K H enc) kvs xs →
    (lk kvs k = none ∧ atKey xs (nk (enc k)) = none) ∨ ∃ v q, lk kvs k = some v ∧ atKey xs (nk (enc k)) = some q ∧ RelV v q.2
  | _, _, .nil => .inl ⟨rfl, rfl⟩
  | (j, v) :: kvs, x :: xs, .cons r t => by
    by_cases e : j = k
    · subst e
      refine .inr ⟨v, x.2, by unfold lk; rw [if_pos rfl], ?_, r.val⟩
      unfold atKey
      rw [List.find?_cons_of_pos (by rw [r.key]; exact decide_eq_true rfl)]; rfl
    · have hx : ¬ x.1 = nk (enc k) := fun z => e (E.ninj (r.key.symm.trans z))
      have h1 : lk ((j, v) :: kvs) k = lk kvs k := by rw [lk, if_neg e]
      have h2 : atKey (x :: xs) (nk (enc k)) = atKey xs (nk (enc k)) := by
        unfold atKey
        rw [List.find?_cons_of_neg (by rw [decide_eq_true_eq]; exact hx)]
      rw [h1, h2]
      exact atKey_rel E t
theorem keys_rel (E : KeyE enc) : ∀ {kvs : List (κ × V)} {xs : List (NestedKey × Addr × Value)}, Paired (DcR K H enc) kvs xs → (xs.map (·.1)).Nodup → (kvs.map (·.1)).Nodup
  | _, _, .nil, _ => List.nodup_nil
  | (j, v) :: kvs, x :: xs, .cons r t, h => by
    rw [List.map_cons, List.nodup_cons] at h
    rw [List.map_cons, List.nodup_cons]
    refine ⟨fun hm => h.1 ?_, keys_rel E t h.2⟩
    obtain ⟨p, hp, e⟩ := List.mem_map.mp hm
    obtain ⟨y, hy⟩ := List.mem_iff_getElem?.mp hp
    have : ∀ {l : List (κ × V)} {m : List (NestedKey × Addr × Value)}, Paired (DcR K H enc) l m → p ∈ l → nk (enc p.1) ∈ m.map (·.1) := by
      intro l m q
      induction q with
      | nil => intro z; cases z
      | cons r _ ih =>
        intro z
        rcases List.mem_cons.mp z with z | z
        · subst z; rw [← r.key]; exact List.mem_cons_self
        · exact List.mem_cons_of_mem _ (ih z)
    have q := this t hp
    rw [r.key]
    have e' : p.1 = j := e
    rw [← e']; exact q
theorem stored_rel (E : KeyE enc) {k : κ} {v : V} {u : Value} {b : Addr} (rv : RelV v u) (db : Dt K H (.ref b) (enc k)) : ∀ {kvs : List (κ × V)} {xs : List (NestedKey × Addr × Value)}, Paired (DcR K H enc) kvs xs → (xs.map (·.1)).Nodup →
    Paired (DcR K H enc) (put kvs k v) (storedH xs (nk (enc k)) b u)
  | _, _, .nil, _ => .cons ⟨rfl, db, rv⟩ .nil
  | (j, y) :: kvs, x :: xs, .cons r t, h => by
    rw [List.map_cons, List.nodup_cons] at h
    by_cases e : j = k
    · subst e
      have h0 : (atKey (x :: xs) (nk (enc j))).isSome = true := by
        unfold atKey
        rw [List.find?_cons_of_pos (by rw [r.key]; exact decide_eq_true rfl)]; rfl
      unfold put storedH
      rw [if_pos rfl, if_pos h0, List.map_cons]
      have hx : putAt (nk (enc j)) u x = (x.1, x.2.1, u) := by unfold putAt; rw [if_pos r.key]
      have hr : xs.map (putAt (nk (enc j)) u) = xs := by
        have q : xs.map (putAt (nk (enc j)) u) = xs.map id := List.map_congr_left fun y hy => by
          unfold putAt
          rw [if_neg]
          · rfl
          · intro z
            exact h.1 (by rw [r.key, ← z]; exact List.mem_map.mpr ⟨y, hy, rfl⟩)
        rw [q, List.map_id]
      rw [hx, hr]
      exact .cons ⟨r.key, r.dat, rv⟩ t
    · have hx : ¬ x.1 = nk (enc k) := fun z => e (E.ninj (r.key.symm.trans z))
      have h2 : atKey (x :: xs) (nk (enc k)) = atKey xs (nk (enc k)) := by
        unfold atKey
        rw [List.find?_cons_of_neg (by rw [decide_eq_true_eq]; exact hx)]
      have ih := stored_rel E rv db t h.2
      have e2 : storedH (x :: xs) (nk (enc k)) b u = x :: storedH xs (nk (enc k)) b u := by
        unfold storedH
        rw [h2]
        split
        · rw [List.map_cons]
          congr 1
          unfold putAt
          rw [if_neg hx]
        · rfl
      unfold put
      rw [if_neg e, e2]
      exact .cons r ih
end
end NB
end S_NbB

section S_NbC
set_option Elab.async false
set_option linter.all false
set_option maxRecDepth 100000
set_option maxHeartbeats 4000000
namespace NB
open PySem PySem.Spec PyProof.Rows L2
section
variable {X : Cx} {pins : List (Addr × Obj)} {σ : L2.St} {H : Hp} {s : Shared} {κ : Type} {enc : κ → PyData} {a : Addr} {kvs : List (κ × V)}

theorem DcR.is (E : KeyE enc) (I : Inv X pins σ H s) {p : κ × V} {x : NestedKey × Addr × Value} (r : DcR X.K H enc p x) : (nestedKind X.prog X.w).is s.heap x.1 x.2.1 :=
  ⟨by rw [r.key]; exact Dt.nested I _ _ _ (E.pd _) r.dat rfl, by rw [r.key]; exact E.dep _⟩
theorem key_is (E : KeyE enc) (I : Inv X pins σ H s) {y : V} {u : Value} {k : κ} (d : Dt X.K H y (enc k)) (r : RelV y u) : ∃ b, y = .ref b ∧ u = .ref b ∧ (nestedKind X.prog X.w).is s.heap (nk (enc k)) b := by
  obtain ⟨ds, e⟩ := E.tup k
  have d' := d
  rw [e] at d'
  obtain ⟨b, xs, rfl, _, _⟩ := dt_tup d'
  have ru : u = .ref b := r
  subst ru
  exact ⟨b, rfl, rfl, Dt.nested I _ _ _ (E.pd _) d rfl, E.dep _⟩
theorem all_is (E : KeyE enc) (I : Inv X pins σ H s) {xs : List (NestedKey × Addr × Value)} (p : Paired (DcR X.K H enc) kvs xs) : ∀ x ∈ xs, (nestedKind X.prog X.w).is s.heap x.1 x.2.1 := fun x hx => by
  obtain ⟨q, r⟩ := Paired.right p x hx
  exact r.is E I
theorem dc_full (E : KeyE enc) (I : Inv X pins σ H s) {xs : List (NestedKey × Addr × Value)} (h : H a = some (DcO X.prog X.w a xs)) (p : Paired (DcR X.K H enc) kvs xs) :
    s.heap.DictOfH (nestedKind X.prog X.w) a xs ∧ xs.length ≤ sizeLine ∧ (a == sysModules) = false := by
  obtain ⟨⟨z, hs, o, es, ep, e1, e2, e3, e4, e5⟩, _⟩ := I.hok a _ h
  exact ⟨⟨o, es, ep, e1, e2, e3, e4, all_is E I p, e5⟩, z, hs⟩
theorem dc_ok {P : Program} {w : World} {H : Hp} {h : Heap} {xs : List (NestedKey × Addr × Value)} (d : h.DictOfH (nestedKind P w) a xs) (z : xs.length ≤ sizeLine) (hs : (a == sysModules) = false) : ObjOk P w H h a (DcO P w a xs) := by
  obtain ⟨o, es, ep, e1, e2, e3, e4, _, e5⟩ := d
  exact ⟨⟨z, hs, o, es, ep, e1, e2, e3, e4, e5⟩, ⟨o, e1⟩, fun h1 h2 ⟨z, hs, o, es, ep, e1, e2, e3, e4, e5⟩ st => ⟨z, hs, o, es, ep, st _ e1, e2, e3, e4, e5⟩⟩
theorem dc_wr (I : Inv X pins σ H s) {xs xs' : List (NestedKey × Addr × Value)} {h' : Heap} {tk : Nat} (h : H a = some (DcO X.prog X.w a xs)) (d : h'.DictOfH (nestedKind X.prog X.w) a xs') (z : xs'.length ≤ sizeLine) (hs : (a == sysModules) = false) (sb : Heap.SameBut a s.heap h') :
    Inv X pins σ (upd H a (DcO X.prog X.w a xs')) { s with heap := h', toks := tk } := by
  obtain ⟨o, es, ep, e1, r⟩ := id d
  exact I.write (e := a) (by rw [h]; trivial) (.inl rfl) (fun b u hb e => (sb.2 b hb).trans e) ⟨o, e1⟩ (dc_ok d z hs)
theorem storedH_len (xs : List (NestedKey × Addr × Value)) (k : NestedKey) (b : Addr) (u : Value) : (storedH xs k b u).length ≤ xs.length + 1 := by
  unfold storedH
  split
  · rw [List.length_map]; omega
  · rw [List.length_append]; exact Nat.le_refl _

/-- {} whose keys are such tuples -/
def tDcNew (P : Program) (w : World) (K : PySem.W.Frag) (enc : κ → PyData) : TE := fun _ H Q => ∀ p H', H p = none → (∀ b, b ≠ p → H' b = H b) → DcAt P w K enc H' p [] → Q (.ref p) H'
theorem pe_dc {pos : Pos} : PE X (.Dict [] [] pos) (tDcNew X.prog X.w X.K enc) := ⟨fun pins s σ H Q I h => by
  have hs : (s.heap.objs.size == sysModules) = false := beq_eq_false_iff_ne.mpr (Nat.ne_of_gt I.big)
  exact wpAny_Dict_empty ⟨.ref s.heap.objs.size, _, I.laid (a := s.heap.objs.size) (o := DcO X.prog X.w s.heap.objs.size []) (t' := s.toks) (fun _ _ q => Heap.get?_push_of_some _ q) (Nat.le_refl _) (dc_ok (Heap.DictOfH.new s.heap) (Nat.zero_le _) hs), rfl,
    h _ _ (I.hok.fresh (Nat.le_refl _)) (fun b hb => upd_ne hb) ⟨[], upd_same, .nil⟩⟩⟩

variable [DecidableEq κ]
/-- d[k] -/
def rIxC (P : Program) (w : World) (K : PySem.W.Frag) (enc : κ → PyData) : R2 := fun x y H Q => ∃ (a : Addr) (kvs : List (κ × V)) (k : κ) (v : V), x = .ref a ∧ DcAt P w K enc H a kvs ∧ Dt K H y (enc k) ∧ lk kvs k = some v ∧ Q v H
theorem ix_dc (E : KeyE enc) (hu : X.A.units + 64 < cLine) : IxR X (rIxC X.prog X.w X.K enc) := by
  intro value slice pins s σ H x y v u Q I rx ry h hs
  obtain ⟨a, kvs, k, z, rfl, ⟨xs, h1, h2⟩, dy, hl, q⟩ := h
  cases rx
  obtain ⟨b, rfl, rfl, hk⟩ := key_is E I dy ry
  obtain ⟨hm, z1, z2⟩ := dc_full E I h1 h2
  rcases atKey_rel E h2 (k := k) with ⟨e1, _⟩ | ⟨v2, p, e1, e2, e3⟩
  · rw [e1] at hl; cases hl
  · rw [e1] at hl; cases hl
    exact subscriptTail_builtinR (x := p.2) hm.typeIs PySem.F.slot_dict_getitem.lookup
      (wpAny_getItem_heap (Q := fun r s' => r = p.2 ∧ EP X pins σ Q r s') (by show X.A.units + 1 + 8 < cLine; omega) hk hm e2 ⟨rfl, _, H, I.tok _, e3, q⟩) hs

/-- d[k] = v -/
def rSetC (P : Program) (w : World) (K : PySem.W.Frag) (enc : κ → PyData) : TSet := fun o i v H Q => ∃ (a : Addr) (kvs : List (κ × V)) (k : κ), o = .ref a ∧ DcAt P w K enc H a kvs ∧ Dt K H i (enc k) ∧ kvs.length < sizeLine ∧
  ∀ H', (∀ b, b ≠ a → H' b = H b) → DcAt P w K enc H' a (put kvs k v) → Q H'
theorem put_at (E : KeyE enc) {P : Program} {w : World} {K : PySem.W.Frag} {xs : List (NestedKey × Addr × Value)} {b : Addr} {k : κ} {v : V} {u : Value} (h1 : H a = some (DcO P w a xs)) (h2 : Paired (DcR K H enc) kvs xs) (nd : (xs.map (·.1)).Nodup)
    (db : Dt K H (.ref b) (enc k)) (rv : RelV v u) : DcAt P w K enc (upd H a (DcO P w a (storedH xs (nk (enc k)) b u))) a (put kvs k v) := by
  have t : Tk H (upd H a (DcO P w a (storedH xs (nk (enc k)) b u))) := Tk.mut h1 trivial
  exact ⟨_, upd_same, Paired.mapP (stored_rel E rv db h2 nd) fun p x r => ⟨r.key, Dt.tk t _ _ (E.im _) r.dat, r.val⟩⟩
theorem rel_len : ∀ {K : PySem.W.Frag} {H : Hp} {kvs : List (κ × V)} {xs : List (NestedKey × Addr × Value)}, Paired (DcR K H enc) kvs xs → kvs.length = xs.length := fun p => Paired.length p
theorem set_dc (E : KeyE enc) (hu : X.A.units + 64 < cLine) : PSet X (rSetC X.prog X.w X.K enc) := by
  intro pins s σ H o i v ov iv u Q I ro ri rv h
  obtain ⟨a, kvs, k, rfl, ⟨xs, h1, h2⟩, di, hz, q⟩ := h
  cases ro
  obtain ⟨b, rfl, rfl, hk⟩ := key_is E I di ri
  obtain ⟨hm, z1, z2⟩ := dc_full E I h1 h2
  have hl := rel_len h2
  refine wpAny_setItem_heap (hsz := z1) (by show X.A.units + 1 + 8 < cLine; omega) hk hm fun h' hm' sb => ?_
  have hz2 : (storedH xs (nk (enc k)) b u).length ≤ sizeLine := Nat.le_trans (storedH_len _ _ _ _) (by omega)
  exact ⟨_, dc_wr I h1 hm' hz2 z2 sb, q _ (fun c hc => upd_ne hc) (put_at E h1 h2 hm.nodup di rv)⟩

/-! ### methods -/
def tDM (P : Program) (w : World) (K : PySem.W.Frag) (enc : κ → PyData) (r : V → List V → Hp → VK → Prop) (to : TE) (t : TA) : TE := fun σ H Q => to σ H fun x H1 => (∃ (a : Addr) (kvs : List (κ × V)), x = .ref a ∧ DcAt P w K enc H1 a kvs) ∧ t σ H1 fun xs H2 => r x xs H2 Q
variable {o e : Expr} {es : List Expr} {to : TE} {t : TA} {name : Str} {apos cpos : Pos} {id : String} {r : V → List V → Hp → VK → Prop}
theorem pe_dm (E : KeyE enc) (slot : Slot "dict" name id) (hty : typeOf (.builtin id) = pure (.type "method_descriptor")) (hm : MtR X id r) (ho : PE X o to) (ha : PA X (e :: es) t)
    (hbase : attributeBase o name X.env (eval o X.env) = eval o X.env := by rfl)
    (hfew : ((backTo cpos (starEach (e :: es) X.env)).all (fun x => !x.1) && (backToKw cpos (keywordEach [] X.env)).all (fun x => x.1.isSome)
      && decide ((e :: es).length + ([] : List Keyword).length + (if ([] : List Keyword).isEmpty then 0 else 1) < 30)) = true := by rfl)
    (hline : (apos.endLine == cpos.line) = true := by rfl) (hs : starEach (e :: es) X.env = (false, eval e X.env) :: starEach es X.env := by rfl) (hplain : (backTo cpos (starEach es X.env)).any (·.1) = false := by rfl) :
    PE X (.Call (.Attribute o name apos) (e :: es) [] cpos) (tDM X.prog X.w X.K enc r to t) := by
  refine ⟨fun pins s σ H Q I h => ?_⟩
  refine wpAny_Call_method_late hbase hfew hline rfl (thn (ho.run pins s σ H _ I h) fun v s1 ⟨x, H1, I1, r1, ⟨a, kvs, ex, ⟨xs, d1, d2⟩⟩, q1⟩ => ?_)
  subst ex
  cases r1
  obtain ⟨hd, z1, z2⟩ := dc_full E I1 d1 d2
  refine ⟨"dict", id, PySem.F.plainAttrs_dict, slot, hty, hd.typeIs, fun b eb => ?_, ?_⟩
  · cases eb
    obtain ⟨ob, _, _, g1, g2, _⟩ := hd
    exact ⟨ob, g1, g2.2.1⟩
  · have hA := ha.run cpos pins s1 σ H1 _ I1 q1
    rw [hs] at hA ⊢
    refine Calls.callWith_builtin (by show (false || (backTo cpos (starEach es X.env)).any (·.1)) = false; rw [hplain] <;> rfl) (Calls.evalArgs_plain ?_)
    exact thn hA fun us s2 ⟨vs, H2, I2, r2, q2⟩ => hm pins s2 σ H2 (.ref a) vs (.ref a) us Q I2 (show L2.RelV (.ref a) (.ref a) from rfl) r2 q2
/-- d.get(k, x) -/
def rGetC (P : Program) (w : World) (K : PySem.W.Frag) (enc : κ → PyData) : V → List V → Hp → VK → Prop := fun x vs H Q => ∃ (a : Addr) (kvs : List (κ × V)) (k : κ) (y z : V), x = .ref a ∧ vs = [y, z] ∧ DcAt P w K enc H a kvs ∧ Dt K H y (enc k) ∧ Q ((lk kvs k).getD z) H
theorem mt_getC (E : KeyE enc) (hu : X.A.units + 64 < cLine) : MtR X "dict.get" (rGetC X.prog X.w X.K enc) := by
  intro pins s σ H x vs v us Q I rx rs h
  obtain ⟨a, kvs, k, y, z, rfl, rfl, ⟨xs, h1, h2⟩, dy, q⟩ := h
  cases rx
  obtain ⟨u1, u2, rfl, r1, r2⟩ := vals2 rs
  obtain ⟨b, rfl, rfl, hk⟩ := key_is E I dy r1
  obtain ⟨hm, z1, z2⟩ := dc_full E I h1 h2
  refine call_meetsIn F.slot_dict_get hm.typeIs F.entry_dict_get (F.args_dict_get_3 _ _ _) (meetsH_dict_get_default (nestedKind X.prog X.w) a b z2 u2) ⟨by show X.A.units + 1 + 8 < cLine; omega, _, xs, hk, hm, ?_⟩
  rcases atKey_rel E h2 (k := k) with ⟨e1, e2⟩ | ⟨v2, p, e1, e2, e3⟩
  · rw [e1] at q; rw [e2]; exact ⟨_, H, I.tok _, r2, q⟩
  · rw [e1] at q; rw [e2]; exact ⟨_, H, I.tok _, e3, q⟩
/-- d.setdefault(k, x) -/
def rSetdC (P : Program) (w : World) (K : PySem.W.Frag) (enc : κ → PyData) : V → List V → Hp → VK → Prop := fun x vs H Q => ∃ (a : Addr) (kvs : List (κ × V)) (k : κ) (y z : V), x = .ref a ∧ vs = [y, z] ∧ DcAt P w K enc H a kvs ∧ Dt K H y (enc k) ∧ kvs.length < sizeLine ∧
  (∀ v, lk kvs k = some v → Q v H) ∧ (lk kvs k = none → ∀ H', (∀ b, b ≠ a → H' b = H b) → DcAt P w K enc H' a (put kvs k z) → Q z H')
theorem mt_setdC (E : KeyE enc) (hu : X.A.units + 64 < cLine) : MtR X "dict.setdefault" (rSetdC X.prog X.w X.K enc) := by
  intro pins s σ H x vs v us Q I rx rs h
  obtain ⟨a, kvs, k, y, z, rfl, rfl, ⟨xs, h1, h2⟩, dy, hz, q1, q2⟩ := h
  cases rx
  obtain ⟨u1, u2, rfl, r1, r2⟩ := vals2 rs
  obtain ⟨b, rfl, rfl, hk⟩ := key_is E I dy r1
  obtain ⟨hm, z1, z2⟩ := dc_full E I h1 h2
  have hl := rel_len h2
  refine call_setdefault_heap (hsz := z1) (by show X.A.units + 1 + 8 < cLine; omega) hk z2 hm (fun p hp => ?_) fun hn h' hm' sb => ?_
  · rcases atKey_rel E h2 (k := k) with ⟨e1, e2⟩ | ⟨v2, p2, e1, e2, e3⟩
    · rw [e2] at hp; cases hp
    · rw [e2] at hp; cases hp
      exact ⟨_, H, I.tok _, e3, q1 _ e1⟩
  · rcases atKey_rel E h2 (k := k) with ⟨e1, e2⟩ | ⟨v2, p2, e1, e2, e3⟩
    · have hz2 : (storedH xs (nk (enc k)) b u2).length ≤ sizeLine := Nat.le_trans (storedH_len _ _ _ _) (by omega)
      exact ⟨_, _, dc_wr I h1 hm' hz2 z2 sb, r2, q2 e1 _ (fun c hc => upd_ne hc) (put_at E h1 h2 hm.nodup dy r2)⟩
    · rw [e2] at hn; cases hn

/-! ### the keys in a row -/
theorem keys_vals (I : Inv X pins σ H s) : ∀ {kvs : List (κ × V)} {xs : List (NestedKey × Addr × Value)}, Paired (DcR X.K H enc) kvs xs → ∃ vs : List V, vs = xs.map (fun x => V.ref x.2.1) ∧ DtA X.K H vs (kvs.map fun p => enc p.1)
  | _, _, .nil => ⟨[], rfl, .nil⟩
  | _, _, .cons r t => by
    obtain ⟨vs, e, d⟩ := keys_vals I t
    exact ⟨_, rfl, .cons r.dat (e ▸ d)⟩
theorem refs_vals : ∀ (l : List Addr) , Vals (l.map V.ref) (l.map Value.ref)
  | [] => .nil
  | a :: l => .cons rfl (refs_vals l)
/-- list(d) -/
def rListC (P : Program) (w : World) (K : PySem.W.Frag) (enc : κ → PyData) : List V → Hp → VK → Prop := fun vs H Q => ∃ (a : Addr) (kvs : List (κ × V)), vs = [.ref a] ∧ DcAt P w K enc H a kvs ∧ ∀ p ys, H p = none → DtA K H ys (kvs.map fun q => enc q.1) → Q (.ref p) (upd H p (.lst ys))
theorem acc_eq {es : Array DictEntry} {xs : List (NestedKey × Addr × Value)} {P : Program} {w : World} {acc : Array Value} (he : es.toList = xs.map (entryOfKey (nestedKind P w))) (h : ItemsOf (fun i v => ∃ hi : i < es.size, v = es[i].key) acc es.size) :
    acc.toList = (xs.map fun x => x.2.1).map Value.ref := by
  have hz : es.size = xs.length := size_of_entries he
  apply List.ext_getElem?
  intro i
  by_cases hi : i < xs.length
  · have h1 : i < acc.size := by rw [h.1, hz]; exact hi
    obtain ⟨h2, e⟩ := h.2 i acc[i] (Array.getElem?_eq_getElem h1)
    have e1 := entry_at he i
    rw [Array.getElem?_eq_getElem h2, List.getElem?_eq_getElem hi] at e1
    have e2 : es[i] = entryOfKey (nestedKind P w) xs[i] := Option.some.inj e1
    rw [Array.getElem?_toList, Array.getElem?_eq_getElem h1, List.getElem?_map, List.getElem?_map, List.getElem?_eq_getElem hi, e, e2]
    rfl
  · rw [Array.getElem?_toList, List.getElem?_map, List.getElem?_map, List.getElem?_eq_none (by omega), Array.getElem?_eq_none (by rw [h.1, hz]; omega)]
    rfl
theorem cr_listC (E : KeyE enc) (hc : X.calm = true) : CallR X (.type "list") (rListC X.prog X.w X.K enc) := by
  intro pins s σ H vs us Q I rs h
  obtain ⟨a, kvs, rfl, ⟨xs, h1, h2⟩, q⟩ := h
  obtain ⟨u1, rfl, r1⟩ := vals1 rs
  cases r1
  obtain ⟨hm, z1, z2⟩ := dc_full E I h1 h2
  obtain ⟨o, es, ep, g1, g2, g3, g4, g5, g6⟩ := id hm
  obtain ⟨ys, ey, dy⟩ := keys_vals I h2
  refine PySem.W.kdl_call (PySem.KdlSrc.rawDict (es := es) (ep := ep) z2) (I.ok.hd hc) ⟨o, g1, g2, g3⟩ (by rw [size_of_entries g4]; exact z1) fun h' tk acc c' hk hD hacc => ?_
  have ea := acc_eq g4 hacc
  have ev : ys = (xs.map fun x => x.2.1).map V.ref := by rw [ey, List.map_map]; rfl
  refine ⟨.ref s.heap.objs.size, _, I.laid (a := s.heap.objs.size) (o := .lst ys) (t' := tk) hk (Nat.le_refl _) ⟨by rw [ev]; simpa using z1, acc.toList, c', by rw [ea, ev]; exact refs_vals _, by rw [Array.toArray_toList]; exact hD⟩, rfl, q _ ys (I.hok.fresh (Nat.le_refl _)) dy⟩
end
end NB
end S_NbC

section S_NbV
set_option Elab.async false
set_option linter.all false
set_option maxRecDepth 100000
set_option maxHeartbeats 4000000
namespace NB
open PySem PySem.Spec PyProof.Rows L2
open Evl (Ex EvT et_and et_or et_not)

/-! ### what the slots hold -/
inductive Sl
  | no
  | d (d : PyData)
  | v (v : V)
  | o (φ : V → Hp → Prop) (st : ∀ v H H', Ex H H' → φ v H → φ v H')
def SlOk (K : PySem.W.Frag) (B : Hp) : Option V → Sl → Prop
  | _, .no => True
  | o, .d d => ∃ v, o = some v ∧ Dt K B v d
  | o, .v v => o = some v
  | o, .o φ _ => ∃ v, o = some v ∧ φ v B
inductive Sg (K : PySem.W.Frag) (B : Hp) : L2.St → List Sl → Prop
  | nil : Sg K B [] []
  | cons {o : Option V} {x : Sl} {σ : L2.St} {env : List Sl} : SlOk K B o x → Sg K B σ env → Sg K B (o :: σ) (x :: env)
def ew (env : List Sl) : List Nat → List Sl
  | [] => env
  | v :: vs => (ew env vs).set v .no
/-- what one may forget -/
inductive Le : List Sl → List Sl → Prop
  | nil : Le [] []
  | same {x : Sl} {a b : List Sl} : Le a b → Le (x :: a) (x :: b)
  | drop {x : Sl} {a b : List Sl} : Le a b → Le (x :: a) (.no :: b)
theorem Le.refl : ∀ a : List Sl, Le a a
  | [] => .nil
  | _ :: a => .same (Le.refl a)
section
variable {K : PySem.W.Frag} {B B' : Hp} {σ : L2.St} {env : List Sl} {d : PyData} {v : V}
theorem SlOk.ex (e : Ex B B') : ∀ {o : Option V} {x : Sl}, SlOk K B o x → SlOk K B' o x
  | _, .no, _ => trivial
  | _, .d _, ⟨v, h, d⟩ => ⟨v, h, Dt.ex e _ _ d⟩
  | _, .v _, h => h
  | _, .o _ st, ⟨v, h, d⟩ => ⟨v, h, st v _ _ e d⟩
theorem Sg.ex (e : Ex B B') (s : Sg K B σ env) : Sg K B' σ env := by
  induction s with
  | nil => exact .nil
  | cons h _ ih => exact .cons (h.ex e) ih
theorem Sg.len (s : Sg K B σ env) : σ.length = env.length := by
  induction s with
  | nil => rfl
  | cons _ _ ih => rw [List.length_cons, List.length_cons, ih]
theorem Sg.get (s : Sg K B σ env) : ∀ {i : Nat} {x : Sl}, env[i]? = some x → ∃ o, σ[i]? = some o ∧ SlOk K B o x := by
  induction s with
  | nil => intro i x h; simp at h
  | cons h _ ih =>
    intro i x e
    cases i with
    | zero => simp at e; subst e; exact ⟨_, rfl, h⟩
    | succ i => exact ih (by simpa using e)
theorem Sg.getD (s : Sg K B σ env) {i : Nat} (h : env[i]? = some (.d d)) : ∃ v, σ[i]? = some (some v) ∧ Dt K B v d := by
  obtain ⟨o, h1, v, rfl, h2⟩ := s.get h
  exact ⟨v, h1, h2⟩
theorem Sg.getV (s : Sg K B σ env) {i : Nat} (h : env[i]? = some (.v v)) : σ[i]? = some (some v) := by
  obtain ⟨o, h1, h2⟩ := s.get h
  rw [h1, h2]
theorem Sg.getO (s : Sg K B σ env) {i : Nat} {φ : V → Hp → Prop} {st : ∀ v H H', Ex H H' → φ v H → φ v H'} (h : env[i]? = some (.o φ st)) : ∃ v, σ[i]? = some (some v) ∧ φ v B := by
  obtain ⟨o, h1, v, rfl, h2⟩ := s.get h
  exact ⟨v, h1, h2⟩
theorem Sg.at (s : Sg K B σ env) {o : Option V} {x : Sl} (h : SlOk K B o x) : ∀ {i : Nat}, σ[i]? = some o → Sg K B σ (env.set i x) := by
  induction s with
  | nil => intro i q; exact .nil
  | cons g s ih =>
    intro i q
    cases i with
    | zero => simp at q; subst q; exact .cons h s
    | succ i => exact .cons g (ih (by simpa using q))
theorem Sg.setSl {o : Option V} {x : Sl} (h : SlOk K B o x) (s : Sg K B σ env) : ∀ (i : Nat), Sg K B (σ.set i o) (env.set i x) := by
  induction s with
  | nil => intro i; exact .nil
  | cons g s ih =>
    intro i
    cases i with
    | zero => exact .cons h s
    | succ i => exact .cons g (ih i)
theorem Sg.setD (i : Nat) (h : Dt K B v d) (s : Sg K B σ env) : Sg K B (σ.set i (some v)) (env.set i (.d d)) := s.setSl (x := .d d) ⟨v, rfl, h⟩ i
theorem Sg.setV (i : Nat) (s : Sg K B σ env) : Sg K B (σ.set i (some v)) (env.set i (.v v)) := s.setSl (x := .v v) rfl i
theorem Sg.wipe (s : Sg K B σ env) : ∀ vs : List Nat, Sg K B (L2.wipe σ vs) (ew env vs)
  | [] => s
  | v :: vs => (Sg.wipe s vs).setSl (o := none) (x := .no) trivial v
theorem Sg.le (s : Sg K B σ env) {env' : List Sl} (l : Le env env') : Sg K B σ env' := by
  induction s generalizing env' with
  | nil => cases l; exact .nil
  | cons h _ ih =>
    cases l with
    | same l => exact .cons h (ih l)
    | drop l => exact .cons trivial (ih l)
theorem Sg.vals : ∀ {vs : List V} {ds : List PyData}, DtA K B vs ds → Sg K B (vs.map some) (ds.map .d)
  | _, _, .nil => .nil
  | _, _, .cons h t => .cons ⟨_, rfl, h⟩ (Sg.vals t)
theorem Sg.app {τ : L2.St} {env' : List Sl} (s : Sg K B σ env) (t : Sg K B τ env') : Sg K B (σ ++ τ) (env ++ env') := by
  induction s with
  | nil => exact t
  | cons h _ ih => exact .cons h ih
theorem Sg.nones : ∀ n : Nat, Sg K B (List.replicate n none) (List.replicate n .no)
  | 0 => .nil
  | n + 1 => .cons trivial (Sg.nones n)
/-- the slots at a body's entry -/
def enter (N : List Str) (ds : List PyData) : List Sl := ds.map .d ++ List.replicate (N.length - ds.length) .no
theorem Sg.start {N : List Str} {vs : List V} {ds : List PyData} (h : DtA K B vs ds) : Sg K B (L2.start N vs) (enter N ds) := by
  unfold L2.start enter
  rw [h.len]
  exact (Sg.vals h).app (Sg.nones _)
end

/-! ### readings by the slots alone -/
def VD (K : PySem.W.Frag) (te : TE) (env : List Sl) (d : PyData) : Prop := ∀ σ B, Sg K B σ env → EvD K te σ B d
def VN (K : PySem.W.Frag) (te : TE) (env : List Sl) (ds : List PyData) : Prop := ∀ σ B, Sg K B σ env → EvN K te σ B ds
def VT (K : PySem.W.Frag) (tt : TT) (env : List Sl) (b : Bool) : Prop := ∀ σ B, Sg K B σ env → EvT tt σ B b
def VA (K : PySem.W.Frag) (ta : TA) (env : List Sl) (ds : List PyData) : Prop := ∀ σ B, Sg K B σ env → EvA K ta σ B ds
/-- B2 holds what B held, what is new and all that is never written -/
structure Bok (H1 H2 B B2 : Hp) : Prop where
  base : Ex B B2
  tk : Tk H2 B2
  new : ∀ a o, H1 a = none → H2 a = some o → B2 a = some o
  sub : Ex B2 H2
theorem Bok.all {H1 H2 B : Hp} (h : Ex B H1) (e : Ex H1 H2) : Bok H1 H2 B H2 := ⟨h.trans e, Tk.refl _, fun _ _ _ h => h, Ex.refl _⟩
/-- without what stands at D -/
def er (H : Hp) (D : Addr) : Hp := fun a => if a = D then none else H a
theorem er_sub (H : Hp) (D : Addr) : Ex (er H D) H := fun a o h => by
  unfold er at h
  split at h
  · cases h
  · exact h
theorem er_in {B H : Hp} {D : Addr} (e : Ex B H) (h : B D = none) : Ex B (er H D) := fun a o q => by
  unfold er
  rw [if_neg (ne_of_none q h)]
  exact e a o q
theorem er_upd {H : Hp} {D : Addr} {o : HO} : Ex (er H D) (upd H D o) := fun a u h => by
  unfold er at h
  split at h
  · cases h
  · rename_i n
    rw [upd_ne n]; exact h
theorem er_upd' {H : Hp} {D : Addr} {o : HO} : Ex (er H D) (er (upd H D o) D) := er_in er_upd (by unfold er; rw [if_pos rfl])
theorem er_self {H : Hp} {D : Addr} : er H D D = none := by unfold er; rw [if_pos rfl]
theorem er_mono {H H' : Hp} {D : Addr} (e : Ex H H') : Ex (er H D) (er H' D) := er_in ((er_sub H D).trans e) er_self
theorem er_bok {H1 H2 B : Hp} {D : Addr} {u : HO} (b : Ex B (er H1 D)) (h : H1 D = some u) (m : MutT (some u)) (e : Ex H1 H2) : Bok H1 H2 B (er H2 D) where
  base := b.trans (er_mono e)
  tk := fun a o n q => by
    unfold er
    rw [if_neg, q]
    intro z
    subst z
    rw [e _ _ h] at q
    cases q
    exact n m
  new := fun a o n q => by
    unfold er
    rw [if_neg, q]
    intro z
    subst z
    rw [h] at n
    cases n
  sub := er_sub _ _
/-- a value that is known apart from what may be written -/
def VB (K : PySem.W.Frag) (te : TE) (env : List Sl) (d : PyData) : Prop := ∀ σ B, Sg K B σ env → ∀ H1, Ex B H1 → ∀ Q : VK, (∀ v H2, Ex H1 H2 → (∀ B2, Bok H1 H2 B B2 → Dt K B2 v d) → Q v H2) → te σ H1 Q
def VBA (K : PySem.W.Frag) (ta : TA) (env : List Sl) (ds : List PyData) : Prop := ∀ σ B, Sg K B σ env → ∀ H1, Ex B H1 → ∀ Q : List V → Hp → Prop, (∀ vs H2, Ex H1 H2 → (∀ B2, Bok H1 H2 B B2 → DtA K B2 vs ds) → Q vs H2) → ta σ H1 Q
/-- walks over the data ds -/
def WkD (K : PySem.W.Frag) (J : It) (ds : List PyData) (B : Hp) : Prop := Walk J ds.length (Ex B) fun i H x H' => Ex H H' ∧ ∃ d, ds[i]? = some d ∧ ∀ B3, Ex B B3 → (∀ a o, H a = none → H' a = some o → B3 a = some o) → Dt K B3 x d
def VI (K : PySem.W.Frag) (wi : TI) (env : List Sl) (ds : List PyData) : Prop := ∀ σ B, Sg K B σ env → ∀ H1, Ex B H1 → ∀ R : It → Hp → Prop, (∀ J H2, Ex H1 H2 → (∀ B2, Bok H1 H2 B B2 → WkD K J ds B2) → R J H2) → wi σ H1 R
/-- a target's store of d -/
def GD (K : PySem.W.Frag) (g : TG) (env : List Sl) (d : PyData) (env' : List Sl) (is : List Nat) : Prop := ∀ B σ v H, Sg K B σ env → Ex B H → Dt K B v d → ∀ Q : L2.St → Hp → Prop,
  (∀ σ', Sg K B σ' env' → (∀ vs : List Nat, (∀ i ∈ is, i ∈ vs) → L2.wipe σ' vs = L2.wipe σ vs) → Q σ' H) → g v σ H Q
def GDs (K : PySem.W.Frag) (g : TGs) (env : List Sl) (ds : List PyData) (env' : List Sl) (is : List Nat) : Prop := ∀ B σ vs H, Sg K B σ env → Ex B H → DtA K B vs ds → ∀ Q : L2.St → Hp → Prop,
  (∀ σ', Sg K B σ' env' → (∀ vs : List Nat, (∀ i ∈ is, i ∈ vs) → L2.wipe σ' vs = L2.wipe σ vs) → Q σ' H) → g vs σ H Q
section
variable {K : PySem.W.Frag} {env env' : List Sl} {ta tb te : TE} {t u : TT} {d a b : PyData} {ds es : List PyData}
theorem VN.dat (h : VN K te env ds) : VD K te env (.list ds) := fun σ B s => (h σ B s).dat
theorem vd_var {i : Nat} (h : env[i]? = some (.d d)) : VD K (tVar i) env d := fun σ B s => by
  obtain ⟨v, h1, h2⟩ := s.getD h
  exact ev_var h1 h2
theorem vd_c {v : V} (h : ∀ H, Dt K H v d) : VD K (tC v) env d := fun σ B s => ev_c (h B)
theorem vd_int {i : Int} : VD K (tC (.int i)) env (.int i) := fun _ _ _ => ev_int
theorem vd_bl {b : Bool} : VD K (tC (.bl b)) env (.bool b) := fun _ _ _ => ev_bl
theorem vd_op {r : R2} (ha : VD K ta env a) (hb : VD K tb env b) (hr : RDD K r a b d) : VD K (tOp r ta tb) env d := fun σ B s => ev_op (ha σ B s) (hb σ B s) hr
theorem vd_un {r : V → Hp → VK → Prop} (ha : VD K ta env a) (hr : RUD K r a d) : VD K (tUn r ta) env d := fun σ B s => ev_un (ha σ B s) hr
theorem va_nil : VA K tNil env [] := fun _ _ _ => ea_nil
theorem va_cons {tr : TA} (h : VD K ta env a) (hr : VA K tr env ds) : VA K (tCons ta tr) env (a :: ds) := fun σ B s => ea_cons (h σ B s) (hr σ B s)
theorem vd_tup {ta : TA} (h : VA K ta env ds) (hl : ds.length ≤ 100000) : VD K (tTup ta) env (.tuple ds) := fun σ B s => ev_tup (h σ B s) hl
theorem vn_lst {ta : TA} (h : VA K ta env ds) (hl : ds.length ≤ 100000) : VN K (tLst ta) env ds := fun σ B s => en_lst (h σ B s) hl
theorem vd_cb {r : List V → Hp → VK → Prop} {ta : TA} (h : VA K ta env ds) (hr : RCD K r ds d) : VD K (tCB r ta) env d := fun σ B s => ev_cb (h σ B s) hr
theorem vn_cb {r : List V → Hp → VK → Prop} {ta : TA} (h : VA K ta env ds) (hr : RCN K r ds es) : VN K (tCB r ta) env es := fun σ B s => en_cb (h σ B s) hr
theorem vt_test {b : Bool} (h : VD K te env (.bool b)) : VT K (tTest te) env b := fun σ B s => et_test (h σ B s)
theorem vt_B {b : Bool} (h : VD K te env (.bool b)) : VT K (tB te) env b := fun σ B s => et_B (h σ B s)
theorem vt_yes : VT K tYes env true := fun _ _ _ => et_yes
theorem vt_and {a b : Bool} (h1 : VT K t env a) (h2 : a = true → VT K u env b) : VT K (tAnd t u) env (a && b) := fun σ B s => et_and (h1 σ B s) fun z => h2 z σ B s
theorem vt_or {a b : Bool} (h1 : VT K t env a) (h2 : a = false → VT K u env b) : VT K (tOr t u) env (a || b) := fun σ B s => et_or (h1 σ B s) fun z => h2 z σ B s
theorem vt_not {a : Bool} (h1 : VT K t env a) : VT K (tNot t) env (!a) := fun σ B s => et_not (h1 σ B s)
theorem vd_if {c : Bool} (h : VT K t env c) (h1 : c = true → VD K ta env d) (h2 : c = false → VD K tb env d) : VD K (tIf t ta tb) env d := fun σ B s => ev_if (h σ B s) (fun z => h1 z σ B s) fun z => h2 z σ B s
theorem vd_ifI {c : Bool} (h : VT K t env c) (h1 : VD K ta env a) (h2 : VD K tb env b) : VD K (tIf t ta tb) env (if c then a else b) := vd_if h (fun z => by rw [z]; exact h1) fun z => by rw [z]; exact h2
theorem vn_if {c : Bool} (h : VT K t env c) (h1 : c = true → VN K ta env ds) (h2 : c = false → VN K tb env ds) : VN K (tIf t ta tb) env ds := fun σ B s => en_if (h σ B s) (fun z => h1 z σ B s) fun z => h2 z σ B s
theorem vd_andV {a b : Bool} (h1 : VD K ta env (.bool a)) (h2 : a = true → VD K tb env (.bool b)) : VD K (tAndV ta tb) env (.bool (a && b)) := fun σ B s => ev_andV (h1 σ B s) fun z => h2 z σ B s
theorem vd_notV {a : Bool} (h1 : VD K ta env (.bool a)) : VD K (tNotV ta) env (.bool (!a)) := fun σ B s => ev_notV (h1 σ B s)
theorem VD.is (h : VD K te env a) (e : a = b) : VD K te env b := e ▸ h
theorem VN.is (h : VN K te env ds) (e : ds = es) : VN K te env es := e ▸ h
theorem VT.is {a b : Bool} (h : VT K t env a) (e : a = b) : VT K t env b := e ▸ h
theorem VA.is {ta : TA} (h : VA K ta env ds) (e : ds = es) : VA K ta env es := e ▸ h
theorem VI.is {wi : TI} (h : VI K wi env ds) (e : ds = es) : VI K wi env es := e ▸ h

/-! values known apart -/
theorem VB.dat (h : VB K te env d) : VD K te env d := fun σ B s H1 e Q q => h σ B s H1 e Q fun v H2 e2 hv => q v H2 e2 (hv H2 (Bok.all e e2))
theorem vb_var {i : Nat} (h : env[i]? = some (.d d)) : VB K (tVar i) env d := fun σ B s H1 e Q q => by
  obtain ⟨v, h1, h2⟩ := s.getD h
  exact ⟨v, h1, q v H1 (Ex.refl _) fun B2 b => Dt.ex b.base _ _ h2⟩
theorem vb_im (h : VD K te env d) (m : im d = true) : VB K te env d := fun σ B s H1 e Q q => h σ B s H1 e Q fun v H2 e2 hv => q v H2 e2 fun B2 b => Dt.tk b.tk _ _ m hv
theorem vb_new (h : VN K te env ds) (m : imA ds = true) : VB K te env (.list ds) := fun σ B s H1 e Q q => h σ B s H1 e Q fun p xs H2 hp e2 hx hd =>
  q _ H2 e2 fun B2 b => .lst (b.new _ _ hp hx) (DtA.tk b.tk _ _ m hd)
theorem vba_nil : VBA K tNil env [] := fun σ B s H1 e Q q => q [] H1 (Ex.refl _) fun _ _ => .nil
theorem Bok.cut {H1 H2 H3 B B3 : Hp} (b : Bok H1 H3 B B3) (e0 : Ex B H1) (e1 : Ex H1 H2) (e2 : Ex H2 H3) : ∃ B2, Bok H1 H2 B B2 ∧ Ex B2 B3 := by
  refine ⟨fun a => if (H2 a).isSome then B3 a else none, ⟨fun a o h => ?_, fun a o n h => ?_, fun a o n h => ?_, fun a o h => ?_⟩, fun a o h => ?_⟩
  · have := e1 _ _ (e0 _ _ h)
    show (if (H2 a).isSome then B3 a else none) = _
    rw [this]; exact b.base _ _ h
  · show (if (H2 a).isSome then B3 a else none) = _
    rw [h]; exact b.tk _ _ n (e2 _ _ h)
  · show (if (H2 a).isSome then B3 a else none) = _
    rw [h]; exact b.new _ _ n (e2 _ _ h)
  · have h : (if (H2 a).isSome then B3 a else none) = some o := h
    cases q : H2 a with
    | none => rw [q] at h; cases h
    | some u =>
      rw [q] at h
      have h : B3 a = some o := h
      rw [← e2 _ _ q]; exact b.sub _ _ h
  · have h : (if (H2 a).isSome then B3 a else none) = some o := h
    split at h
    · exact h
    · cases h
theorem Bok.tail {H1 H2 H3 B B3 : Hp} (b : Bok H1 H3 B B3) (e1 : Ex H1 H2) : Bok H2 H3 B B3 := ⟨b.base, b.tk, fun a o n h => b.new a o (e1.back n) h, b.sub⟩
theorem vba_cons {tr : TA} (h : VB K te env d) (hr : VBA K tr env ds) : VBA K (tCons te tr) env (d :: ds) := fun σ B s H1 e Q q => h σ B s H1 e _ fun v H2 e2 hv => hr σ B s H2 (e.trans e2) _ fun vs H3 e3 hvs =>
  q (v :: vs) H3 (e2.trans e3) fun B3 b => by
    obtain ⟨B2, b2, x2⟩ := b.cut e e2 e3
    exact .cons (Dt.ex x2 _ _ (hv B2 b2)) (hvs B3 (b.tail e2))
theorem vb_tup {ta : TA} (h : VBA K ta env ds) (hl : ds.length ≤ 100000) : VB K (tTup ta) env (.tuple ds) := fun σ B s H1 e Q q => h σ B s H1 e _ fun vs H2 e2 hv => by
  refine ⟨by rw [(hv H2 (Bok.all e e2)).len]; exact Nat.le_trans hl (by decide), fun p hp => q _ _ (e2.trans (Ex.new hp)) fun B3 b => ?_⟩
  obtain ⟨B2, b2, x2⟩ := b.cut e e2 (Ex.new hp)
  exact .tup (SqT.of (b.new _ _ (e2.back hp) upd_same)) (DtA.ex x2 _ _ (hv B2 b2))
theorem vba_one (h : VB K te env d) : VBA K (tCons te tNil) env [d] := fun σ B s H1 e Q q => h σ B s H1 e _ fun v H2 e2 hv => q [v] H2 e2 fun B2 b => .cons (hv B2 b) .nil

/-! ### walks -/
theorem wk_lst {x : Addr} {xs : List V} {B : Hp} (h : B x = some (.lst xs)) (hd : DtA K B xs ds) : WkD K (Itl K x) ds B := by
  unfold WkD
  rw [← hd.len]
  refine Walk.mono (walk_list (K := K) (a := x) (xs := xs)) (fun H e => SqL.of (e _ _ h)) fun i H v H' _ e y => ?_
  obtain ⟨rfl, hx⟩ := y
  obtain ⟨d, h1, h2⟩ := hd.get hx
  exact ⟨Ex.refl _, d, h1, fun B3 e3 _ => Dt.ex e3 _ _ h2⟩
theorem wk_tup {x : Addr} {xs : List V} {B : Hp} (h : SqT K B x xs) (hd : DtA K B xs ds) : WkD K (Itt K x) ds B := by
  unfold WkD
  rw [← hd.len]
  refine Walk.mono (walk_tup (K := K) (a := x) (xs := xs)) (fun H e => e.sqt h) fun i H v H' _ e y => ?_
  obtain ⟨rfl, hx⟩ := y
  obtain ⟨d, h1, h2⟩ := hd.get hx
  exact ⟨Ex.refl _, d, h1, fun B3 e3 _ => Dt.ex e3 _ _ h2⟩
theorem wk_rng {lo : Int} {n : Nat} {B : Hp} : WkD K (Itr lo n) ((List.range n).map fun i => .int (lo + (i : Nat))) B := by
  have hl : ((List.range n).map fun i => PyData.int (lo + (i : Nat))).length = n := by simp
  unfold WkD
  rw [hl]
  refine Walk.mono (walk_range (lo := lo) (n := n)) (fun _ _ => trivial) fun i H v H' hi e y => ?_
  obtain ⟨rfl, rfl⟩ := y
  exact ⟨Ex.refl _, _, by simp [hi], fun _ _ _ => .int _⟩
theorem vi_lstB (h : VB K te env (.list ds)) : VI K (iList K te) env ds := fun σ B s H1 e R q => h σ B s H1 e _ fun v H2 e2 hv => by
  obtain ⟨a, xs, rfl, h1, h2⟩ := dt_lst (hv H2 (Bok.all e e2))
  refine ⟨a, rfl, ⟨xs, SqL.of h1⟩, q _ H2 e2 fun B2 b => ?_⟩
  obtain ⟨a', xs', e', g1, g2⟩ := dt_lst (hv B2 b)
  cases e'
  exact wk_lst g1 g2
theorem vi_tupB (h : VB K te env (.tuple ds)) : VI K (iTup K te) env ds := fun σ B s H1 e R q => h σ B s H1 e _ fun v H2 e2 hv => by
  obtain ⟨a, xs, rfl, h1, h2⟩ := dt_tup (hv H2 (Bok.all e e2))
  refine ⟨a, rfl, ⟨xs, h1⟩, q _ H2 e2 fun B2 b => ?_⟩
  obtain ⟨a', xs', e', g1, g2⟩ := dt_tup (hv B2 b)
  cases e'
  exact wk_tup g1 g2
theorem vi_rng1 {ta : TA} {j : Int} (h : VA K ta env [.int j]) (h1 : -(2 ^ 62) ≤ j) (h2 : j < 2 ^ 62) : VI K (iRng1 ta) env ((List.range j.toNat).map fun i => .int (i : Nat)) := fun σ B s H1 e R q => h σ B s H1 e _ fun vs H2 e2 hv => by
  cases hv with
  | cons a t =>
    cases t
    rw [dt_int a]
    refine ⟨j, rfl, h1, h2, q _ H2 e2 fun B2 b => ?_⟩
    have := wk_rng (K := K) (lo := 0) (n := j.toNat) (B := B2)
    simpa using this

/-! ### targets -/
theorem wipe_get (σ : L2.St) : ∀ (vs : List Nat) (i : Nat), (L2.wipe σ vs)[i]? = if i < σ.length then (if i ∈ vs then some none else σ[i]?) else none
  | [], i => by
    show σ[i]? = _
    by_cases h : i < σ.length
    · rw [if_pos h]; simp
    · rw [if_neg h]; exact List.getElem?_eq_none (by omega)
  | v :: vs, i => by
    show ((L2.wipe σ vs).set v none)[i]? = _
    rw [List.getElem?_set, wipe_get σ vs i, L2.wipe_length]
    by_cases h : i < σ.length
    · rw [if_pos h]
      by_cases hv : v = i
      · subst hv
        rw [if_pos rfl, if_pos h, if_pos h, if_pos List.mem_cons_self]
      · rw [if_neg hv, if_pos h]
        by_cases hm : i ∈ vs
        · rw [if_pos hm, if_pos (List.mem_cons_of_mem _ hm)]
        · rw [if_neg hm, if_neg (by rw [List.mem_cons]; rintro (z | z); exact hv z.symm; exact hm z)]
    · rw [if_neg h, if_neg h]
      by_cases hv : v = i
      · subst hv; rw [if_pos rfl]; simp [h]
      · rw [if_neg hv]
theorem wipe_wipe (σ : L2.St) (vs : List Nat) : L2.wipe (L2.wipe σ vs) vs = L2.wipe σ vs := by
  apply List.ext_getElem?
  intro j
  rw [wipe_get, wipe_get, L2.wipe_length]
  by_cases hj : j < σ.length
  · rw [if_pos hj, if_pos hj]
    by_cases hm : j ∈ vs
    · rw [if_pos hm, if_pos hm]
    · rw [if_neg hm, if_neg hm]
  · rw [if_neg hj]; rw [if_neg hj]
theorem wipe_set (σ : L2.St) (vs : List Nat) (i : Nat) (o : Option V) (h : i ∈ vs) : L2.wipe (σ.set i o) vs = L2.wipe σ vs := by
  apply List.ext_getElem?
  intro j
  rw [wipe_get, wipe_get, List.length_set]
  by_cases hj : j < σ.length
  · rw [if_pos hj, if_pos hj]
    by_cases hm : j ∈ vs
    · rw [if_pos hm, if_pos hm]
    · rw [if_neg hm, if_neg hm, List.getElem?_set_ne (fun e => hm (by rw [← e]; exact h))]
  · rw [if_neg hj, if_neg hj]
theorem gd_name {i : Nat} : GD K (gName i) env d (env.set i (.d d)) [i] := fun B σ v H s e h Q q => q _ (s.setD i h) fun vs hv => wipe_set _ _ _ _ (hv i (by simp))
theorem gds_nil : GDs K gNil env [] env [] := fun B σ v H s e h Q q => by
  cases h
  exact ⟨rfl, q σ s fun vs _ => rfl⟩
theorem gds_cons {g : TG} {r : TGs} {env1 : List Sl} {is js : List Nat} (h1 : GD K g env d env1 is) (h2 : GDs K r env1 ds env' js) : GDs K (gCons g r) env (d :: ds) env' (is ++ js) := fun B σ vs H s e h Q q => by
  cases h with
  | cons a t => exact ⟨_, _, rfl, h1 B σ _ H s e a _ fun σ1 s1 w1 => h2 B σ1 _ H s1 e t _ fun σ2 s2 w2 => q σ2 s2 fun ws hw => (w2 ws fun i hi => hw i (List.mem_append_right _ hi)).trans (w1 ws fun i hi => hw i (List.mem_append_left _ hi))⟩
theorem gd_tup {g : TGs} {n : Nat} {is : List Nat} (h : GDs K g env ds env' is) (hl : ds.length = n) : GD K (gTup K n g) env (.tuple ds) env' is := fun B σ v H s e hd Q q => by
  obtain ⟨a, xs, rfl, h1, h2⟩ := dt_tup hd
  exact ⟨a, xs, rfl, e.sqt h1, by rw [h2.len]; exact hl, h B σ xs H s e h2 Q q⟩
theorem GD.is {g : TG} {is : List Nat} {x : PyData} (h : GD K g env d env' is) (e : x = d) : GD K g env x env' is := e ▸ h

/-! ### comprehensions -/
inductive Lc (K : PySem.W.Frag) (g : TG) (tt : TT) (te : TE) (vs : List Nat) (env : List Sl) : List PyData → List PyData → Prop
  | nil : Lc K g tt te vs env [] []
  | keep {d o : PyData} {ds os : List PyData} {env' : List Sl} {is : List Nat} : GD K g (ew env vs) d env' is → (∀ i ∈ is, i ∈ vs) → VT K tt env' true → VB K te env' o → Lc K g tt te vs env ds os → Lc K g tt te vs env (d :: ds) (o :: os)
  | drop {d : PyData} {ds os : List PyData} {env' : List Sl} {is : List Nat} : GD K g (ew env vs) d env' is → (∀ i ∈ is, i ∈ vs) → VT K tt env' false → Lc K g tt te vs env ds os → Lc K g tt te vs env (d :: ds) os
theorem Lc.at {g : TG} {tt : TT} {te : TE} {vs : List Nat} {os : List PyData} (h : Lc K g tt te vs env ds os) : ∃ n : Nat → Nat, n 0 = 0 ∧ n ds.length = os.length ∧ (∀ i, i ≤ ds.length → n i ≤ os.length) ∧ ∀ i d, ds[i]? = some d → ∃ env' is, GD K g (ew env vs) d env' is ∧ (∀ i ∈ is, i ∈ vs) ∧
    ((VT K tt env' true ∧ ∃ o, os[n i]? = some o ∧ VB K te env' o ∧ n (i + 1) = n i + 1) ∨ (VT K tt env' false ∧ n (i + 1) = n i)) := by
  induction h with
  | nil => exact ⟨fun _ => 0, rfl, rfl, fun _ _ => Nat.le_refl _, fun i d e => by simp at e⟩
  | @keep d o ds os env' is h1 h2 h3 h4 _ ih =>
    obtain ⟨n, n0, nl, nm, nn⟩ := ih
    refine ⟨fun i => match i with | 0 => 0 | i + 1 => n i + 1, rfl, ?_, fun i hi => ?_, fun i d e => ?_⟩
    · show n ds.length + 1 = os.length + 1
      rw [nl]
    · cases i with
      | zero => exact Nat.zero_le _
      | succ i => exact Nat.succ_le_succ (nm i (Nat.le_of_succ_le_succ hi))
    · cases i with
      | zero => simp at e; subst e; exact ⟨env', is, h1, h2, .inl ⟨h3, o, rfl, h4, by show n 0 + 1 = 0 + 1; rw [n0]⟩⟩
      | succ i =>
        obtain ⟨env', is, g1, g2, g3⟩ := nn i d (by simpa using e)
        refine ⟨env', is, g1, g2, ?_⟩
        rcases g3 with ⟨g3, o, g4, g5, g6⟩ | ⟨g3, g4⟩
        · exact .inl ⟨g3, o, by simpa using g4, g5, by show n (i + 1) + 1 = n i + 1 + 1; rw [g6]⟩
        · exact .inr ⟨g3, by show n (i + 1) + 1 = n i + 1; rw [g4]⟩
  | @drop d ds os env' is h1 h2 h3 _ ih =>
    obtain ⟨n, n0, nl, nm, nn⟩ := ih
    refine ⟨fun i => match i with | 0 => 0 | i + 1 => n i, rfl, nl, fun i hi => ?_, fun i d e => ?_⟩
    · cases i with
      | zero => exact Nat.zero_le _
      | succ i => exact nm i (Nat.le_of_succ_le_succ hi)
    · cases i with
      | zero => simp at e; subst e; exact ⟨env', is, h1, h2, .inr ⟨h3, n0⟩⟩
      | succ i => exact nn i d (by simpa using e)
theorem DtA.snoc {H : Hp} {vs : List V} {v : V} {i : Nat} {o : PyData} (h : DtA K H vs (ds.take i)) (e : ds[i]? = some o) (hv : Dt K H v o) : DtA K H (vs ++ [v]) (ds.take (i + 1)) := by
  rw [List.take_add_one, e]
  exact h.app (.one hv)
/-- a comprehension's list, its walk's data known -/
theorem vn_lc {wi : TI} {g : TG} {tt : TT} {te : TE} {vs : List Nat} {os : List PyData} (hi : VI K wi env ds) (hz : os.length ≤ 100000) (h : Lc K g tt te vs env ds os) : VN K (tLc wi g tt te vs) env os := fun σ B s H1 e Q q => by
  obtain ⟨n, n0, nl, nm, nn⟩ := h.at
  refine hi σ B s H1 e _ fun J H2 e2 hw D hD => ?_
  have w := hw H2 (Bok.all e e2)
  refine lc_it w (fun i H => Ex H2 H ∧ ∃ acc, H D = some (.lst acc) ∧ DtA K (er H D) acc (os.take (n i))) ⟨Ex.new hD, [], upd_same, by rw [n0]; exact .nil⟩ (fun i H _ p => p.1) (fun i x H H' hi p y => ?_) (fun H p => ?_)
  · obtain ⟨p1, acc, p2, p3⟩ := p
    obtain ⟨y1, d, y2, y3⟩ := y
    obtain ⟨env', is, g1, g2, g3⟩ := nn i d y2
    have p12 : Ex H2 H' := p1.trans y1
    have hb : Ex H2 (er H' D) := er_in p12 hD
    have s' : Sg K (er H' D) (L2.wipe σ vs) (ew env vs) := (s.ex ((e.trans e2).trans hb)).wipe vs
    have hx : Dt K (er H' D) x d := y3 _ hb fun a o h1 h2 => by
      unfold er
      rw [if_neg, h2]
      intro z
      subst z
      rw [p2] at h1
      cases h1
    refine g1 (er H' D) _ x H' s' (er_sub _ _) hx _ fun σ2 s2 w2 => ⟨?_, ?_⟩
    · rw [w2 vs g2]
      exact wipe_wipe σ vs
    · rcases g3 with ⟨g3, o, g4, g5, g6⟩ | ⟨g3, g4⟩
      · refine g3 σ2 _ s2 H' (er_sub _ _) _ fun H3 e3 => ?_
        show te σ2 H3 _
        have hl3 : H3 D = some (.lst acc) := e3 _ _ (y1 _ _ p2)
        refine g5 σ2 _ s2 H3 ((er_sub _ _).trans e3) _ fun v H4 e4 hv => ?_
        have hl4 : H4 D = some (.lst acc) := e4 _ _ hl3
        have hv' : Dt K (er H4 D) v o := hv _ (er_bok (er_mono e3) hl3 trivial e4)
        have p3' : DtA K (er H4 D) acc (os.take (n i)) := DtA.ex (er_mono ((y1.trans e3).trans e4)) _ _ p3
        refine ⟨acc, hl4, ?_, Ex.mut (p12.trans (e3.trans e4)) hD, _, upd_same, ?_⟩
        · have := p3.len
          rw [List.length_take] at this
          exact Nat.lt_of_le_of_lt (by omega : acc.length ≤ 100000) (by decide)
        · rw [g6]
          exact DtA.ex er_upd' _ _ (p3'.snoc g4 hv')
      · exact g3 σ2 _ s2 H' (er_sub _ _) _ fun H3 e3 => ⟨p12.trans e3, acc, e3 _ _ (y1 _ _ p2), by rw [g4]; exact DtA.ex (er_mono (y1.trans e3)) _ _ p3⟩
  · obtain ⟨p1, acc, p2, p3⟩ := p
    rw [nl, List.take_length] at p3
    exact q D acc H (e2.back hD) (e2.trans p1) p2 (DtA.ex (er_sub _ _) _ _ p3)
/-- a map by such a list -/
theorem lc_map {α : Type} {g : TG} {tt : TT} {te : TE} {vs : List Nat} {f h : α → PyData} : ∀ {xs : List α}, (∀ x ∈ xs, ∃ env' is, GD K g (ew env vs) (f x) env' is ∧ (∀ i ∈ is, i ∈ vs) ∧ VT K tt env' true ∧ VB K te env' (h x)) → Lc K g tt te vs env (xs.map f) (xs.map h)
  | [], _ => .nil
  | x :: xs, p => by
    obtain ⟨env', is, h1, h2, h3, h4⟩ := p x List.mem_cons_self
    exact .keep h1 h2 h3 h4 (lc_map fun y hy => p y (List.mem_cons_of_mem _ hy))
theorem lc_filter {α : Type} {g : TG} {tt : TT} {te : TE} {vs : List Nat} {f h : α → PyData} {c : α → Bool} : ∀ {xs : List α}, (∀ x ∈ xs, ∃ env' is, GD K g (ew env vs) (f x) env' is ∧ (∀ i ∈ is, i ∈ vs) ∧ VT K tt env' (c x) ∧ (c x = true → VB K te env' (h x))) → Lc K g tt te vs env (xs.map f) ((xs.filter c).map h)
  | [], _ => .nil
  | x :: xs, p => by
    obtain ⟨env', is, h1, h2, h3, h4⟩ := p x List.mem_cons_self
    have ih := lc_filter fun y hy => p y (List.mem_cons_of_mem _ hy)
    cases e : c x with
    | true => rw [List.filter_cons_of_pos e]; exact .keep h1 h2 (e ▸ h3) (h4 e) ih
    | false => rw [List.filter_cons_of_neg (by rw [e]; exact Bool.false_ne_true)]; exact .drop h1 h2 (e ▸ h3) ih
end
end NB
end S_NbV

section S_NbS
set_option Elab.async false
set_option linter.all false
set_option maxRecDepth 100000
set_option maxHeartbeats 4000000
namespace NB
open PySem PySem.Spec PyProof.Rows L2
open Evl (Ex)

/-! ### what a def owns -/
structure As where
  p : Hp → Prop
  st : ∀ H H', Ex H H' → p H → p H'
theorem As.ex_ {F : As} {H H' : Hp} (e : Ex H H') (h : F.p H) : F.p H' := F.st H H' e h
/-- F says nothing of what stands at a -/
def As.Off (F : As) (a : Addr) : Prop := ∀ H H', (∀ b, b ≠ a → H' b = H b) → Tk H H' → F.p H → F.p H'
def As.emp : As := ⟨fun _ => True, fun _ _ _ _ => trivial⟩
def As.and (F G : As) : As := ⟨fun H => F.p H ∧ G.p H, fun H H' e h => ⟨F.st H H' e h.1, G.st H H' e h.2⟩⟩
def As.ex {α : Type} (F : α → As) : As := ⟨fun H => ∃ x, (F x).p H, fun H H' e ⟨x, q⟩ => ⟨x, (F x).st H H' e q⟩⟩
def As.lst (K : PySem.W.Frag) (a : Addr) (ds : List PyData) (m : imA ds = true) : As := ⟨fun H => ∃ xs, H a = some (.lst xs) ∧ DtA K H xs ds, fun H H' e ⟨xs, h1, h2⟩ => ⟨xs, e a _ h1, DtA.ex e _ _ h2⟩⟩
theorem As.off_emp {a : Addr} : As.emp.Off a := fun _ _ _ _ _ => trivial
theorem As.off_and {F G : As} {a : Addr} (h1 : F.Off a) (h2 : G.Off a) : (F.and G).Off a := fun H H' k t p => ⟨h1 H H' k t p.1, h2 H H' k t p.2⟩
theorem As.off_lst {K : PySem.W.Frag} {a b : Addr} {ds : List PyData} {m : imA ds = true} (h : b ≠ a) : (As.lst K b ds m).Off a := fun H H' k t ⟨xs, h1, h2⟩ => ⟨xs, (k b h).trans h1, DtA.tk t _ _ m h2⟩

/-- the heap without what is owned -/
def Bs (H : Hp) (O : List Addr) : Hp := fun a => if a ∈ O then none else H a
theorem Bs_sub (H : Hp) (O : List Addr) : Ex (Bs H O) H := fun a o h => by
  unfold Bs at h
  split at h
  · cases h
  · exact h
theorem Bs_nil (H : Hp) : Bs H [] = H := by
  funext a; unfold Bs; rw [if_neg (by simp)]
theorem Bs_in {B H : Hp} {O : List Addr} (e : Ex B H) (h : ∀ a ∈ O, B a = none) : Ex B (Bs H O) := fun a o q => by
  unfold Bs
  rw [if_neg]
  · exact e a o q
  · intro m
    rw [h a m] at q; cases q
theorem Bs_none {H : Hp} {O : List Addr} {a : Addr} (m : a ∈ O) : Bs H O a = none := by unfold Bs; rw [if_pos m]
theorem Bs_out {H : Hp} {O : List Addr} {a : Addr} (m : a ∉ O) : Bs H O a = H a := by unfold Bs; rw [if_neg m]
theorem Bs_mono {H H' : Hp} {O : List Addr} (e : Ex H H') : Ex (Bs H O) (Bs H' O) := Bs_in ((Bs_sub H O).trans e) fun a m => Bs_none m
/-- what is not owned is kept -/
def XO (O : List Addr) (H H' : Hp) : Prop := Ex (Bs H O) (Bs H' O)
theorem XO.refl (O : List Addr) (H : Hp) : XO O H H := Ex.refl _
theorem XO.trans {O : List Addr} {H H1 H2 : Hp} (a : XO O H H1) (b : XO O H1 H2) : XO O H H2 := Ex.trans a b
theorem XO.of {O : List Addr} {H H' : Hp} (e : Ex H H') : XO O H H' := Bs_mono e
theorem XO.at {O : List Addr} {H H' : Hp} (x : XO O H H') {a : Addr} {o : HO} (m : a ∉ O) (h : H a = some o) : H' a = some o := by
  have := x a o (by rw [Bs_out m]; exact h)
  rwa [Bs_out m] at this
theorem XO.by_ {O : List Addr} {H H' : Hp} (h : ∀ a o, a ∉ O → H a = some o → H' a = some o) : XO O H H' := fun a o q => by
  by_cases m : a ∈ O
  · rw [Bs_none m] at q; cases q
  · rw [Bs_out m] at q ⊢
    exact h a o m q
theorem XO.mut {O : List Addr} {H H' : Hp} {a : Addr} (m : a ∈ O) (h : ∀ b, b ≠ a → H' b = H b) : XO O H H' := XO.by_ fun b o nb q => by
  rw [h b (fun e => nb (e ▸ m))]; exact q
theorem XO.back {O : List Addr} {H H' : Hp} (x : XO O H H') {a : Addr} (m : a ∉ O) (h : H' a = none) : H a = none := by
  cases q : H a with
  | none => rfl
  | some o => rw [x.at m q] at h; cases h
theorem Tk.at {H H' : Hp} {a : Addr} {u : HO} (h : H a = some u) (m : MutT (some u)) (k : ∀ b, b ≠ a → H' b = H b) : Tk H H' := fun b o n q => by
  rw [k b, q]
  intro e
  subst e
  rw [h] at q; cases q; exact n m

/-- the state: what is owned, the slots, what is said of the owned -/
structure Zs (K : PySem.W.Frag) (O : List Addr) (F : As) (env : List Sl) (σ : L2.St) (H : Hp) : Prop where
  own : ∀ a ∈ O, ∃ o, H a = some o ∧ MutT (some o)
  sg : Sg K (Bs H O) σ env
  as : F.p H
section
variable {K : PySem.W.Frag} {O : List Addr} {F F1 G : As} {env env' : List Sl} {σ : L2.St} {H H' : Hp}
theorem Zs.ex (z : Zs K O F env σ H) (e : Ex H H') : Zs K O F env σ H' := ⟨fun a m => by
  obtain ⟨o, h, q⟩ := z.own a m
  exact ⟨o, e a o h, q⟩, z.sg.ex (Bs_mono e), As.ex_ e z.as⟩
theorem Zs.s (z : Zs K O F env σ H) : Sg K H σ env := z.sg.ex (Bs_sub _ _)
theorem Zs.le (z : Zs K O F env σ H) (l : Le env env') : Zs K O F env' σ H := ⟨z.own, z.sg.le l, z.as⟩
theorem Zs.bok (z : Zs K O F env σ H) (e : Ex H H') : Bok H H' (Bs H O) (Bs H' O) where
  base := Bs_mono e
  tk := fun a o n q => by
    rw [Bs_out, q]
    intro m
    obtain ⟨u, h, mu⟩ := z.own a m
    rw [e a u h] at q; cases q; exact n mu
  new := fun a o n q => by
    rw [Bs_out, q]
    intro m
    obtain ⟨u, h, mu⟩ := z.own a m
    rw [h] at n; cases n
  sub := Bs_sub _ _
theorem Zs.fresh (z : Zs K O F env σ H) {a : Addr} (h : H a = none) : a ∉ O := fun m => by
  obtain ⟨o, q, _⟩ := z.own a m
  rw [h] at q; cases q
end

/-- how a block ends -/
inductive Rs
  | nx (I : List Sl → Prop) (F : As)
  | rt (P : PyData → Prop) (F : As)
  | rn (P : List PyData → Prop) (F : As)
  | ro (a : Addr) (F : As)
def Rs.ok (K : PySem.W.Frag) (O : List Addr) (H : Hp) : Rs → Ends → Prop
  | .nx I F, D => ∀ env' σ' H', I env' → XO O H H' → Zs K O F env' σ' H' → D.nx σ' H'
  | .rt P F, D => ∀ v d H', P d → XO O H H' → F.p H' → Dt K (Bs H' O) v d → D.rt v H'
  | .rn P F, D => ∀ p xs ds H', P ds → XO O H H' → F.p H' → p ∉ O → H p = none → H' p = some (.lst xs) → DtA K (Bs H' O) xs ds → D.rt (.ref p) H'
  | .ro a F, D => ∀ H', XO O H H' → (∀ b ∈ O, ∃ o, H' b = some o ∧ MutT (some o)) → F.p H' → D.rt (.ref a) H'
theorem Rs.ok_mono {K : PySem.W.Frag} {O : List Addr} {H H1 : Hp} (x : XO O H H1) : ∀ {r : Rs} {D : Ends}, r.ok K O H D → r.ok K O H1 D
  | .nx I F, D, h => fun env' σ' H' i y z => h env' σ' H' i (x.trans y) z
  | .rt P F, D, h => fun v d H' p y f q => h v d H' p (x.trans y) f q
  | .rn P F, D, h => fun p xs ds H' q y f no hp a b => h p xs ds H' q (x.trans y) f no (x.back no hp) a b
  | .ro a F, D, h => fun H' y o f => h H' (x.trans y) o f
def VS (K : PySem.W.Frag) (O : List Addr) (F : As) (ts : TS) (env : List Sl) (r : Rs) : Prop := ∀ D σ H, Zs K O F env σ H → r.ok K O H D → ts D σ H
/-- the result of a larger set of owned ones, seen by the smaller -/
inductive RsLe : Rs → Rs → Prop
  | nx {I I' : List Sl → Prop} {F F' : As} : (∀ e, I e → ∃ e', I' e' ∧ Le e e') → (∀ H, F.p H → F'.p H) → RsLe (.nx I F) (.nx I' F')
  | rt {P P' : PyData → Prop} {F F' : As} : (∀ d, P d → P' d) → (∀ H, F.p H → F'.p H) → RsLe (.rt P F) (.rt P' F')
  | rn {P P' : List PyData → Prop} {F F' : As} : (∀ d, P d → P' d) → (∀ H, F.p H → F'.p H) → RsLe (.rn P F) (.rn P' F')
  | ro {a : Addr} {F F' : As} : (∀ H, F.p H → F'.p H) → RsLe (.ro a F) (.ro a F')
/-- .. where the new owned one at a is left behind or handed out -/
inductive RsNew (K : PySem.W.Frag) (a : Addr) : Rs → Rs → Prop
  | le {r r' : Rs} : (∀ b F, r ≠ .ro b F) → RsLe r r' → RsNew K a r r'
  | ro {P : List PyData → Prop} {F F' : As} : (∀ H, F.p H → F'.p H ∧ ∃ xs ds, H a = some (.lst xs) ∧ DtA K H xs ds ∧ imA ds = true ∧ P ds) → RsNew K a (.ro a F) (.rn P F')
theorem RsLe.rfl_ : ∀ r : Rs, RsLe r r
  | .nx I F => .nx (fun e h => ⟨e, h, Le.refl _⟩) fun _ h => h
  | .rt P F => .rt (fun _ h => h) fun _ h => h
  | .rn P F => .rn (fun _ h => h) fun _ h => h
  | .ro a F => .ro fun _ h => h
theorem Bs_cons (H : Hp) (a : Addr) (O : List Addr) : Ex (Bs H (a :: O)) (Bs H O) := Bs_in (Bs_sub _ _) fun b m => Bs_none (List.mem_cons_of_mem _ m)
theorem XO.less {O : List Addr} {H H1 H' : Hp} {a : Addr} (h : H a = none) (e : Ex H H1) (x : XO (a :: O) H1 H') : XO O H H' := XO.by_ fun b o m q => x.at (fun z => (List.mem_cons.mp z).elim (fun z => by subst z; rw [h] at q; cases q) m) (e _ _ q)
theorem Rs.ok_less {K : PySem.W.Frag} {O : List Addr} {H H1 : Hp} {a : Addr} (h : H a = none) (m : a ∉ O) (e : Ex H H1) {r r' : Rs} {D : Ends} (l : RsNew K a r r') (q : r'.ok K O H D) : r.ok K (a :: O) H1 D := by
  cases l with
  | le no l =>
    cases l with
    | nx hI hF =>
      intro env' σ' H' i x z
      obtain ⟨e', i', l⟩ := hI _ i
      exact q e' σ' H' i' (x.less h e) ⟨fun b m => z.own b (List.mem_cons_of_mem _ m), (z.sg.ex (Bs_cons _ _ _)).le l, hF _ z.as⟩
    | rt hP hF => exact fun v d H' p x f dd => q v d H' (hP _ p) (x.less h e) (hF _ f) (Dt.ex (Bs_cons _ _ _) _ _ dd)
    | rn hP hF => exact fun p xs ds H' pp x f no hp a1 b1 => q p xs ds H' (hP _ pp) (x.less h e) (hF _ f) (fun m => no (List.mem_cons_of_mem _ m)) (e.back hp) a1 (DtA.ex (Bs_cons _ _ _) _ _ b1)
    | ro hF => exact absurd rfl (no _ _)
  | ro hr =>
    intro H' x ow f
    obtain ⟨f', xs, ds, h1, h2, h3, h4⟩ := hr _ f
    refine q a xs ds H' h4 (x.less h e) f' m h h1 (DtA.tk (fun b o n qq => ?_) _ _ h3 h2)
    rw [Bs_out, qq]
    intro mb
    obtain ⟨o', g1, g2⟩ := ow b (List.mem_cons_of_mem _ mb)
    rw [g1] at qq; cases qq; exact n g2
theorem Rs.ok_le {K : PySem.W.Frag} {O : List Addr} {H : Hp} : ∀ {r r' : Rs} {D : Ends}, RsLe r r' → r'.ok K O H D → r.ok K O H D
  | _, _, _, .nx hI hF, q => fun env' σ' H' i x z => by
    obtain ⟨e', i', l⟩ := hI _ i
    exact q e' σ' H' i' x ⟨z.own, z.sg.le l, hF _ z.as⟩
  | _, _, _, .rt hP hF, q => fun v d H' p x f dd => q v d H' (hP _ p) x (hF _ f) dd
  | _, _, _, .rn hP hF, q => fun p xs ds H' pp x f no hp a1 b1 => q p xs ds H' (hP _ pp) x (hF _ f) no hp a1 b1
  | _, _, _, .ro hF, q => fun H' x o f => q H' x o (hF _ f)

section
variable {K : PySem.W.Frag} {O : List Addr} {F F1 F2 G : As} {env env' : List Sl} {t u : TS} {te : TE} {g : TG} {c : TT} {r r' : Rs} {d : PyData} {ds : List PyData} {is : List Nat}
theorem VS.le (h : VS K O F t env r) (l : RsLe r r') : VS K O F t env r' := fun D σ H z q => h D σ H z (Rs.ok_le l q)
theorem VS.pre (h : VS K O F1 t env r) (f : ∀ H, F.p H → F1.p H) : VS K O F t env r := fun D σ H z q => h D σ H ⟨z.own, z.sg, f _ z.as⟩ q
theorem VS.wk (h : VS K O F t env' r) (l : Le env env') : VS K O F t env r := fun D σ H z q => h D σ H (z.le l) q
theorem vs_seq {I : List Sl → Prop} (h1 : VS K O F t env (.nx I F1)) (h2 : ∀ e, I e → VS K O F1 u e r) : VS K O F (tSeq t u) env r := fun D σ H z q =>
  h1 _ σ H z fun env' σ' H' i x z' => h2 env' i D σ' H' z' (Rs.ok_mono x q)
theorem vs_seq1 (h1 : VS K O F t env (.nx (· = env') F1)) (h2 : VS K O F1 u env' r) : VS K O F (tSeq t u) env r := vs_seq h1 fun e i => by subst i; exact h2
theorem vs_seqR {P : PyData → Prop} (h1 : VS K O F t env (.rt P F1)) : VS K O F (tSeq t u) env (.rt P F1) := fun D σ H z q => h1 _ σ H z q
theorem vs_seqRN {P : List PyData → Prop} (h1 : VS K O F t env (.rn P F1)) : VS K O F (tSeq t u) env (.rn P F1) := fun D σ H z q => h1 _ σ H z q
theorem vs_next : VS K O F tNext env (.nx (· = env) F) := fun D σ H z q => q env σ H rfl (XO.refl _ _) z
theorem vs_if {b : Bool} (h : VT K c env b) (h1 : b = true → VS K O F t env r) (h2 : b = false → VS K O F u env r) : VS K O F (tIfS c t u) env r := fun D σ H z q =>
  h σ H z.s H (Ex.refl _) _ fun H2 e2 => by
    cases b with
    | true => exact h1 rfl D σ H2 (z.ex e2) (Rs.ok_mono (XO.of e2) q)
    | false => exact h2 rfl D σ H2 (z.ex e2) (Rs.ok_mono (XO.of e2) q)
theorem vs_ifT (h : VT K c env true) (h1 : VS K O F t env r) : VS K O F (tIfS c t u) env r := vs_if h (fun _ => h1) fun z => nomatch z
theorem vs_ifF (h : VT K c env false) (h1 : VS K O F u env r) : VS K O F (tIfS c t u) env r := vs_if h (fun z => nomatch z) fun _ => h1
theorem vs_asg (h : VB K te env d) (hg : GD K g env d env' is) : VS K O F (tAsg te g) env (.nx (· = env') F) := fun D σ H z q =>
  h σ _ z.sg H (Bs_sub _ _) _ fun v H2 e2 hv => by
    have z2 := z.ex e2
    exact hg _ σ v H2 z2.sg (Bs_sub _ _) (hv _ (z.bok e2)) _ fun σ' s' _ => q env' σ' H2 rfl (XO.of e2) ⟨z2.own, s', z2.as⟩
theorem vs_asg0 (h : VD K te env d) (hg : GD K g env d env' is) : VS K [] F (tAsg te g) env (.nx (· = env') F) := fun D σ H z q =>
  h σ H z.s H (Ex.refl _) _ fun v H2 e2 hv => by
    have z2 := z.ex e2
    exact hg H2 σ v H2 z2.s (Ex.refl _) hv _ fun σ' s' _ => q env' σ' H2 rfl (XO.of e2) ⟨z2.own, by rw [Bs_nil]; exact s', z2.as⟩
theorem vs_par {ta : TA} {i j : Nat} {a b : PyData} (h : VBA K ta env [a, b]) : VS K O F (tPar i j ta) env (.nx (· = (env.set i (.d a)).set j (.d b)) F) := fun D σ H z q =>
  h σ _ z.sg H (Bs_sub _ _) _ fun vs H2 e2 hv => by
    have z2 := z.ex e2
    have := hv _ (z.bok e2)
    cases this with
    | cons h1 t =>
      cases t with
      | cons h2 t =>
        cases t
        exact ⟨_, _, rfl, q _ _ H2 rfl (XO.of e2) ⟨z2.own, (z2.sg.setD i h1).setD j h2, z2.as⟩⟩
theorem vs_ret (h : VB K te env d) : VS K O F (tRet te) env (.rt (· = d) F) := fun D σ H z q =>
  h σ _ z.sg H (Bs_sub _ _) _ fun v H2 e2 hv => q v d H2 rfl (XO.of e2) (As.ex_ e2 z.as) (hv _ (z.bok e2))
theorem vs_ret0 (h : VD K te env d) : VS K [] F (tRet te) env (.rt (· = d) F) := fun D σ H z q =>
  h σ H z.s H (Ex.refl _) _ fun v H2 e2 hv => q v d H2 rfl (XO.of e2) (As.ex_ e2 z.as) (by rw [Bs_nil]; exact hv)
theorem vs_retN0 (h : VN K te env ds) : VS K [] F (tRet te) env (.rn (· = ds) F) := fun D σ H z q =>
  h σ H z.s H (Ex.refl _) _ fun p xs H2 hp e2 hx hd => q p xs ds H2 rfl (XO.of e2) (As.ex_ e2 z.as) (by simp) hp hx (by rw [Bs_nil]; exact hd)
theorem vs_retN (h : VN K te env ds) (m : imA ds = true) : VS K O F (tRet te) env (.rn (· = ds) F) := fun D σ H z q =>
  h σ H z.s H (Ex.refl _) _ fun p xs H2 hp e2 hx hd => q p xs ds H2 rfl (XO.of e2) (As.ex_ e2 z.as) (z.fresh hp) hp hx (DtA.tk (z.bok e2).tk _ _ m hd)
/-- the owned list in slot i is handed out -/
theorem vs_retO {a : Addr} {i : Nat} (hi : env[i]? = some (.v (.ref a))) : VS K O F (tRet (tVar i)) env (.ro a F) := fun D σ H z q => ⟨_, z.sg.getV hi, q H (XO.refl _ _) z.own z.as⟩
theorem vs_expr (h : VB K te env d) : VS K O F (tDrop te) env (.nx (· = env) F) := fun D σ H z q =>
  h σ _ z.sg H (Bs_sub _ _) _ fun v H2 e2 hv => q env σ H2 rfl (XO.of e2) (z.ex e2)
/-- for -/
theorem vs_for {wi : TI} {tb : TS} (I : Nat → List Sl → Prop) (Fi : Nat → As) (hi : VI K wi env ds) (h0 : ∃ e, I 0 e ∧ Le env e) (hF : ∀ H, F.p H → (Fi 0).p H)
    (hs : ∀ i d e, ds[i]? = some d → I i e → ∃ e2 is, GD K g e d e2 is ∧ VS K O (Fi i) tb e2 (.nx (I (i + 1)) (Fi (i + 1)))) : VS K O F (tFor wi g tb) env (.nx (I ds.length) (Fi ds.length)) := fun D σ H z q =>
  hi σ _ z.sg H (Bs_sub _ _) _ fun J H2 e2 hw => by
    have z2 := z.ex e2
    have w := hw _ (z.bok e2)
    refine for_it w (fun i σ' H' => XO O H2 H' ∧ ∃ e, I i e ∧ Zs K O (Fi i) e σ' H') ⟨XO.refl _ _, ?_⟩ (fun i σ' H' _ p => Ex.trans p.1 (Bs_sub _ _)) (fun i x σ' H1 H1' hi' p y => ?_) (fun σ' H' p => ?_)
    · obtain ⟨e, i0, l⟩ := h0
      exact ⟨e, i0, z2.own, z2.sg.le l, hF _ z2.as⟩
    · obtain ⟨p1, e, pe, pz⟩ := p
      obtain ⟨y1, d, y2, y3⟩ := y
      obtain ⟨ee, is, g1, g2⟩ := hs i d e y2 pe
      have pz' := pz.ex y1
      refine g1 _ σ' x H1' pz'.sg (Bs_sub _ _) (y3 _ (Ex.trans p1 (Bs_mono y1)) (pz.bok y1).new) _ fun σ2 s2 _ => ?_
      exact g2 _ σ2 H1' ⟨pz'.own, s2, pz'.as⟩ fun env' σ'' H'' i' x' z' => ⟨(p1.trans (XO.of y1)).trans x', env', i', z'⟩
    · obtain ⟨p1, e, pe, pz⟩ := p
      exact q e σ' H' pe ((XO.of e2).trans p1) pz
/-- while -/
theorem vs_while {tb : TS} (I : Nat → List Sl → Prop) (J : List Sl → Prop) (m0 : Nat) (h0 : I m0 env)
    (hs : ∀ m e, I m e → (VT K c e false ∧ J e) ∨ (VT K c e true ∧ VS K O F tb e (.nx (fun e' => ∃ m', m' < m ∧ I m' e') F))) : VS K O F (tWhile c tb) env (.nx J F) := fun D σ H z q => by
  refine ⟨fun m σ' H' => XO O H H' ∧ ∃ e, I m e ∧ Zs K O F e σ' H', ⟨m0, XO.refl _ _, env, h0, z⟩, fun m σ' H' p => ?_⟩
  obtain ⟨x, e, i, z'⟩ := p
  rcases hs m e i with ⟨h1, h2⟩ | ⟨h1, h2⟩
  · refine h1 σ' H' z'.s H' (Ex.refl _) _ fun H2 e2 => ?_
    rw [if_neg Bool.false_ne_true]
    exact q e σ' H2 h2 (x.trans (XO.of e2)) (z'.ex e2)
  · refine h1 σ' H' z'.s H' (Ex.refl _) _ fun H2 e2 => ?_
    rw [if_pos rfl]
    refine ⟨fun σ3 H3 => ∃ m', m' < m ∧ XO O H H3 ∧ ∃ e, I m' e ∧ Zs K O F e σ3 H3, fun σ3 H3 n => ?_, h2 _ σ' H2 (z'.ex e2) fun env' σ3 H3 i3 x3 z3 => ?_⟩
    · obtain ⟨m', h1, h2⟩ := n
      exact ⟨m', h1, h2⟩
    · obtain ⟨m', h3, h4⟩ := i3
      exact ⟨m', h3, (x.trans (XO.of e2)).trans x3, env', h4, z3⟩

/-! what is owned anew -/
theorem Bs_new {H : Hp} {a : Addr} {o : HO} (h : H a = none) : Ex (Bs H O) (Bs (upd H a o) (a :: O)) := Bs_in ((Bs_sub H O).trans (Ex.new h)) fun b m => by
  rcases List.mem_cons.mp m with z | z
  · subst z
    cases q : Bs H O b with
    | none => rfl
    | some u => rw [Bs_sub H O b u q] at h; cases h
  · exact Bs_none z
theorem vs_newL {i : Nat} (m : imA ds = true) (h : VN K te env ds) (hr : ∀ a, a ∉ O → ∃ r', RsNew K a r' r ∧ VS K (a :: O) (F.and (.lst K a ds m)) u (env.set i (.v (.ref a))) r') : VS K O F (tSeq (tAsg te (gName i)) u) env r := fun D σ H z q =>
  h σ H z.s H (Ex.refl _) _ fun p xs H2 hp e2 hx hd => by
    obtain ⟨r', l, hu⟩ := hr p (z.fresh hp)
    have z2 := z.ex e2
    have x2 : Ex (Bs H O) (Bs H2 (p :: O)) := Bs_in ((Bs_sub H O).trans e2) fun b mb => by
      rcases List.mem_cons.mp mb with w | w
      · subst w
        cases q : Bs H O b with
        | none => rfl
        | some u => rw [Bs_sub H O b u q] at hp; cases hp
      · exact Bs_none w
    refine hu D _ H2 ⟨fun b mb => ?_, (z.sg.ex x2).setV i, As.ex_ e2 z.as, xs, hx, hd⟩ (Rs.ok_less hp (z.fresh hp) e2 l q)
    rcases List.mem_cons.mp mb with w | w
    · subst w; exact ⟨_, hx, trivial⟩
    · exact z2.own b w
/-- the new one leaves nothing of its own behind -/
theorem vs_dropF {a : Addr} (h : VS K O F t env r) : VS K O (F.and G) t env r := h.pre fun _ q => q.1
end
end NB
end S_NbS

section S_NbT
set_option Elab.async false
set_option linter.all false
set_option maxRecDepth 100000
set_option maxHeartbeats 4000000
namespace NB
open PySem PySem.Spec PyProof.Rows L2
open Evl (Ex)

section
variable {K : PySem.W.Frag} {O : List Addr} {F G : As} {env env' : List Sl} {t u : TS} {te tk : TE} {c : TT} {r r' : Rs} {d : PyData} {ds es : List PyData} {a : Addr} {i : Nat}
theorem Zs.mut {σ : L2.St} {H : Hp} {o' : HO} (z : Zs K O F env σ H) (ha : a ∈ O) (mo : MutT (some o')) (hf : G.p (upd H a o')) : Zs K O G env σ (upd H a o') := ⟨fun b mb => by
  by_cases e : b = a
  · subst e; exact ⟨_, upd_same, mo⟩
  · rw [upd_ne e]; exact z.own b mb, z.sg.ex (XO.mut ha fun b nb => upd_ne nb), hf⟩
theorem Zs.tkm {σ : L2.St} {H : Hp} {o' : HO} (z : Zs K O F env σ H) (ha : a ∈ O) : Tk H (upd H a o') := by
  obtain ⟨o, h, m⟩ := z.own a ha
  exact Tk.mut h m
/-- xs.append(e), xs owned -/
theorem vs_append {m : imA ds = true} {m' : imA (ds ++ [d]) = true} (hi : env[i]? = some (.v (.ref a))) (ha : a ∈ O) (h : VD K te env d) (hg : G.Off a) (hl : ds.length < 100000) :
    VS K O (G.and (.lst K a ds m)) (tDrop (tBM K "list" rAppend (tVar i) (tCons te tNil))) env (.nx (· = env) (G.and (.lst K a (ds ++ [d]) m'))) := fun D σ H z q => by
  obtain ⟨g1, xs, h1, h2⟩ := z.as
  refine ⟨_, z.sg.getV hi, .inl ⟨rfl, xs, SqL.of h1⟩, h σ H z.s H (Ex.refl _) _ fun v H2 e2 hv => ?_⟩
  have z2 := z.ex e2
  have t2 : Tk H2 (upd H2 a (.lst (xs ++ [v]))) := z2.tkm ha
  rw [imA_all, List.all_append, Bool.and_eq_true] at m'
  refine ⟨a, xs, v, rfl, rfl, e2 _ _ h1, by rw [h2.len]; exact Nat.lt_trans hl (by decide), q env σ _ rfl ((XO.of e2).trans (XO.mut ha fun b nb => upd_ne nb)) (z2.mut ha trivial ⟨hg _ _ (fun b nb => upd_ne nb) t2 (As.ex_ e2 g1), _, upd_same, ?_⟩)⟩
  exact (DtA.tk t2 _ _ m (DtA.ex e2 _ _ h2)).app (.one (Dt.tk t2 _ _ (by simpa using m'.2) hv))
/-- xs.extend(e), xs owned, e a new list -/
theorem vs_extend {m : imA ds = true} {m' : imA (ds ++ es) = true} (hi : env[i]? = some (.v (.ref a))) (ha : a ∈ O) (h : VN K te env es) (hg : G.Off a) (hl : ds.length + es.length ≤ 100000) :
    VS K O (G.and (.lst K a ds m)) (tDrop (tBM K "list" rExtend (tVar i) (tCons te tNil))) env (.nx (· = env) (G.and (.lst K a (ds ++ es) m'))) := fun D σ H z q => by
  obtain ⟨g1, xs, h1, h2⟩ := z.as
  refine ⟨_, z.sg.getV hi, .inl ⟨rfl, xs, SqL.of h1⟩, h σ H z.s H (Ex.refl _) _ fun p ys H2 hp e2 hy hd => ?_⟩
  have z2 := z.ex e2
  have t2 : Tk H2 (upd H2 a (.lst (xs ++ ys))) := z2.tkm ha
  rw [imA_all, List.all_append, Bool.and_eq_true] at m'
  refine ⟨a, p, xs, ys, rfl, rfl, e2 _ _ h1, hy, by rw [h2.len, hd.len]; exact Nat.le_trans hl (by decide), q env σ _ rfl ((XO.of e2).trans (XO.mut ha fun b nb => upd_ne nb)) (z2.mut ha trivial ⟨hg _ _ (fun b nb => upd_ne nb) t2 (As.ex_ e2 g1), _, upd_same, ?_⟩)⟩
  exact (DtA.tk t2 _ _ m (DtA.ex e2 _ _ h2)).app (DtA.tk t2 _ _ (by rw [imA_all]; exact m'.2) hd)
/-- xs[j] = e, xs owned -/
theorem vs_setL {m : imA ds = true} {j : Nat} {ti : TE} {m' : imA (ds.set j d) = true} (hi : env[i]? = some (.v (.ref a))) (ha : a ∈ O) (h : VD K te env d) (md : im d = true) (hj : VD K ti env (.int (j : Nat))) (hlt : j < ds.length) (hg : G.Off a) :
    VS K O (G.and (.lst K a ds m)) (tAsg te (gSub (tVar i) ti rSetL)) env (.nx (· = env) (G.and (.lst K a (ds.set j d) m'))) := fun D σ H z q => by
  obtain ⟨g1, xs, h1, h2⟩ := z.as
  refine h σ H z.s H (Ex.refl _) _ fun v H2 e2 hv => ⟨_, z.sg.getV hi, hj σ H z.s H2 e2 _ fun w H3 e3 hw => ?_⟩
  have z3 := z.ex (e2.trans e3)
  have t3 : Tk H3 (upd H3 a (.lst (xs.set j v))) := z3.tkm ha
  have hx : xs.length = ds.length := h2.len
  rw [dt_int hw]
  refine ⟨a, xs, (j : Nat), j, rfl, rfl, e3 _ _ (e2 _ _ h1), ?_, q env σ _ rfl ((XO.of (e2.trans e3)).trans (XO.mut ha fun b nb => upd_ne nb)) (z3.mut ha trivial ⟨hg _ _ (fun b nb => upd_ne nb) t3 (As.ex_ (e2.trans e3) g1), _, upd_same, ?_⟩)⟩
  · unfold ixN
    rw [if_pos (by omega), if_pos (by omega)]; simp
  · exact DtA.set j (Dt.tk t3 _ _ md (Dt.ex e3 _ _ hv)) (DtA.tk t3 _ _ m (DtA.ex (e2.trans e3) _ _ h2))
end

/-! ### owned dicts -/
inductive DV (K : PySem.W.Frag) (H : Hp) {κ ν : Type} (encv : ν → PyData) : List (κ × V) → List (κ × ν) → Prop
  | nil : DV K H encv [] []
  | cons {k : κ} {v : V} {x : ν} {kvs : List (κ × V)} {l : List (κ × ν)} : Dt K H v (encv x) → DV K H encv kvs l → DV K H encv ((k, v) :: kvs) ((k, x) :: l)
section
variable {K : PySem.W.Frag} {H H' : Hp} {κ ν : Type} {encv : ν → PyData} {enc : κ → PyData} {kvs : List (κ × V)} {l : List (κ × ν)}
theorem DV.keys (h : DV K H encv kvs l) : kvs.map (·.1) = l.map (·.1) := by
  induction h with
  | nil => rfl
  | cons _ _ ih => rw [List.map_cons, List.map_cons, ih]
theorem DV.ex (e : Ex H H') (h : DV K H encv kvs l) : DV K H' encv kvs l := by
  induction h with
  | nil => exact .nil
  | cons a _ ih => exact .cons (Dt.ex e _ _ a) ih
theorem DV.tk (m : ∀ x, im (encv x) = true) (e : Tk H H') (h : DV K H encv kvs l) : DV K H' encv kvs l := by
  induction h with
  | nil => exact .nil
  | cons a _ ih => exact .cons (Dt.tk e _ _ (m _) a) ih
variable [DecidableEq κ]
theorem DV.lk (h : DV K H encv kvs l) (k : κ) : (lk kvs k = none ∧ lk l k = none) ∨ ∃ v x, lk kvs k = some v ∧ lk l k = some x ∧ Dt K H v (encv x) := by
  induction h with
  | nil => exact .inl ⟨rfl, rfl⟩
  | @cons j v x kvs l a _ ih =>
    unfold NB.lk
    by_cases e : j = k
    · rw [if_pos e, if_pos e]; exact .inr ⟨v, x, rfl, rfl, a⟩
    · rw [if_neg e, if_neg e]; exact ih
theorem DV.put {k : κ} {v : V} {x : ν} (hv : Dt K H v (encv x)) (h : DV K H encv kvs l) : DV K H encv (put kvs k v) (put l k x) := by
  induction h with
  | nil => exact .cons hv .nil
  | @cons j w y kvs l a t ih =>
    unfold NB.put
    by_cases e : j = k
    · rw [if_pos e, if_pos e]; exact .cons hv t
    · rw [if_neg e, if_neg e]; exact .cons a ih
end
/-- the dict at a, its keys and values as data -/
def DcD (P : Program) (w : World) (K : PySem.W.Frag) {κ ν : Type} (enc : κ → PyData) (encv : ν → PyData) (H : Hp) (a : Addr) (l : List (κ × ν)) : Prop := ∃ kvs, DcAt P w K enc H a kvs ∧ DV K H encv kvs l
theorem DcD.ex {P : Program} {w : World} {K : PySem.W.Frag} {κ ν : Type} {enc : κ → PyData} {encv : ν → PyData} {H H' : Hp} {a : Addr} {l : List (κ × ν)} (E : KeyE enc) (e : Ex H H') : DcD P w K enc encv H a l → DcD P w K enc encv H' a l
  | ⟨kvs, h1, h2⟩ => ⟨kvs, h1.ex E e, h2.ex e⟩
def As.dc (P : Program) (w : World) (K : PySem.W.Frag) {κ ν : Type} (enc : κ → PyData) (E : KeyE enc) (encv : ν → PyData) (a : Addr) (l : List (κ × ν)) : As := ⟨fun H => DcD P w K enc encv H a l, fun H H' e h => h.ex E e⟩
/-- the slot of such a dict that is only read -/
def Sl.dc (P : Program) (w : World) (K : PySem.W.Frag) {κ ν : Type} (enc : κ → PyData) (E : KeyE enc) (encv : ν → PyData) (l : List (κ × ν)) : Sl := .o (fun v H => ∃ a, v = .ref a ∧ DcD P w K enc encv H a l) fun _ _ _ e ⟨a, h1, h2⟩ => ⟨a, h1, h2.ex E e⟩
section
variable {P : Program} {w : World} {K : PySem.W.Frag} {κ ν : Type} {enc : κ → PyData} {E : KeyE enc} {encv : ν → PyData} {l : List (κ × ν)} {O : List Addr} {F G : As} {env env' : List Sl} {t u : TS} {te tk : TE} {r r' : Rs} {d : PyData} {a : Addr} {i : Nat}
theorem vs_newD (hr : ∀ a, a ∉ O → ∃ r', RsNew K a r' r ∧ VS K (a :: O) (F.and (.dc P w K enc E encv a ([] : List (κ × ν)))) u (env.set i (.v (.ref a))) r') : VS K O F (tSeq (tAsg (tDcNew P w K enc) (gName i)) u) env r := fun D σ H z q p H' hp hk hd => by
  obtain ⟨r', l, hu⟩ := hr p (z.fresh hp)
  have e2 : Ex H H' := fun b o h => by rw [hk b (ne_of_none h hp)]; exact h
  have x2 : Ex (Bs H O) (Bs H' (p :: O)) := Bs_in ((Bs_sub H O).trans e2) fun b mb => by
    rcases List.mem_cons.mp mb with w | w
    · subst w
      cases q : Bs H O b with
      | none => rfl
      | some u => rw [Bs_sub H O b u q] at hp; cases hp
    · exact Bs_none w
  refine hu D _ H' ⟨fun b mb => ?_, (z.sg.ex x2).setV i, As.ex_ e2 z.as, [], hd, .nil⟩ (Rs.ok_less hp (z.fresh hp) e2 l q)
  rcases List.mem_cons.mp mb with w | w
  · subst w; exact hd.mut
  · exact (z.ex e2).own b w
theorem Sg.view {σ : L2.St} {H : Hp} (z : Zs K (a :: O) (G.and (.dc P w K enc E encv a l)) env σ H) (hi : env[i]? = some (.v (.ref a))) : Sg K H σ (env.set i (.dc P w K enc E encv l)) :=
  z.s.at (x := .dc P w K enc E encv l) ⟨_, rfl, a, rfl, z.as.2⟩ (z.sg.getV hi)
variable [DecidableEq κ]
/-- d[k] = e, d owned; e may read it -/
theorem vs_dset {k : κ} {x : ν} (hi : env[i]? = some (.v (.ref a))) (hv : VD K te (env.set i (.dc P w K enc E encv l)) (encv x)) (mv : ∀ x, im (encv x) = true) (hk : VD K tk (env.set i (.dc P w K enc E encv l)) (enc k)) (hg : G.Off a) (hl : l.length < 100000) :
    VS K (a :: O) (G.and (.dc P w K enc E encv a l)) (tAsg te (gSub (tVar i) tk (rSetC P w K enc))) env (.nx (· = env) (G.and (.dc P w K enc E encv a (put l k x)))) := fun D σ H z q => by
  have s := Sg.view z hi
  refine hv σ H s H (Ex.refl _) _ fun v H2 e2 dv => ⟨_, z.sg.getV hi, hk σ H s H2 e2 _ fun y H3 e3 dy => ?_⟩
  have z3 := z.ex (e2.trans e3)
  obtain ⟨g3, kvs, d1, d2⟩ := z3.as
  refine ⟨a, kvs, k, rfl, d1, dy, ?_, fun H4 k4 d4 => ?_⟩
  · have := congrArg List.length d2.keys
    rw [List.length_map, List.length_map] at this
    rw [this]; exact Nat.lt_trans hl (by decide)
  · obtain ⟨o4, h4, m4⟩ := d1.mut
    have t4 : Tk H3 H4 := Tk.at h4 m4 k4
    have xo : XO (a :: O) H3 H4 := XO.mut List.mem_cons_self k4
    refine q env σ H4 rfl ((XO.of (e2.trans e3)).trans xo) ⟨fun b mb => ?_, z3.sg.ex xo, hg _ _ k4 t4 g3, _, d4, (d2.tk mv t4).put (Dt.tk t4 _ _ (mv x) (Dt.ex e3 _ _ dv))⟩
    by_cases e : b = a
    · subst e; exact d4.mut
    · rw [k4 b e]; exact z3.own b mb
/-- d[k], d.get(k, x) of a dict that is only read -/
theorem vd_ixC {k : κ} {x : ν} (hi : env[i]? = some (.dc P w K enc E encv l)) (hk : VD K tk env (enc k)) (hl : lk l k = some x) : VD K (tOp (rIxC P w K enc) (tVar i) tk) env (encv x) := fun σ B s H1 e Q q => by
  obtain ⟨v, h1, b, rfl, hd⟩ := s.getO hi
  refine ⟨_, h1, hk σ B s H1 e _ fun y H2 e2 dy => ?_⟩
  obtain ⟨kvs, d1, d2⟩ := hd.ex E (e.trans e2)
  rcases d2.lk k with ⟨_, n⟩ | ⟨v, x', n1, n2, n3⟩
  · rw [hl] at n; cases n
  · rw [hl] at n2; cases n2
    exact ⟨b, kvs, k, v, rfl, d1, dy, n1, q v H2 e2 n3⟩
theorem vd_getC {k : κ} {tz : TE} {x z : ν} (hi : env[i]? = some (.dc P w K enc E encv l)) (hk : VD K tk env (enc k)) (hz : VD K tz env (encv z)) (hl : (lk l k).getD z = x) : VD K (tDM P w K enc (rGetC P w K enc) (tVar i) (tCons tk (tCons tz tNil))) env (encv x) := fun σ B s H1 e Q q => by
  obtain ⟨v, h1, b, rfl, hd⟩ := s.getO hi
  obtain ⟨kv0, d0, _⟩ := hd.ex E e
  refine ⟨_, h1, ⟨b, kv0, rfl, d0⟩, hk σ B s H1 e _ fun y H2 e2 dy => hz σ B s H2 (e.trans e2) _ fun zv H3 e3 dz => ?_⟩
  obtain ⟨kvs, d1, d2⟩ := hd.ex E ((e.trans e2).trans e3)
  refine ⟨b, kvs, k, y, zv, rfl, rfl, d1, Dt.ex e3 _ _ dy, ?_⟩
  rcases d2.lk k with ⟨n1, n⟩ | ⟨v, x', n1, n2, n3⟩
  · rw [n] at hl
    have hl : z = x := hl
    subst hl
    rw [n1]; exact q zv H3 (e2.trans e3) dz
  · rw [n2] at hl
    have hl : x' = x := hl
    subst hl
    rw [n1]; exact q v H3 (e2.trans e3) n3
/-- the owned dict is only read from here on -/
theorem vs_freeze (hi : env[i]? = some (.v (.ref a))) (hn : a ∉ O) (mv : ∀ x, im (encv x) = true) {P1 : PyData → Prop} {F1 : As} (hP : ∀ d, P1 d → im d = true) (h : VS K O G u (env.set i (.dc P w K enc E encv l)) (.rt P1 F1)) : VS K (a :: O) (G.and (.dc P w K enc E encv a l)) u env (.rt P1 F1) := fun D σ H z q => by
  have e0 : Ex (Bs H (a :: O)) (Bs H O) := Bs_cons _ _ _
  obtain ⟨o, ho, mo⟩ := z.own a List.mem_cons_self
  obtain ⟨g, kvs, d1, d2⟩ := z.as
  have tk : Tk H (Bs H O) := fun b u nu hb => by
    rw [Bs_out, hb]
    intro m
    obtain ⟨u', g1, g2⟩ := z.own b (List.mem_cons_of_mem _ m)
    rw [g1] at hb; cases hb; exact nu g2
  have dd : DcD P w K enc encv (Bs H O) a l := ⟨kvs, d1.tk E tk fun u hu => by rw [Bs_out hn]; exact hu, d2.tk mv tk⟩
  have sv := z.sg.getV hi
  refine h D σ H ⟨fun b m => z.own b (List.mem_cons_of_mem _ m), (z.sg.ex e0).at (x := .dc P w K enc E encv l) ⟨_, rfl, a, rfl, dd⟩ sv, g⟩ fun v d H' p x f hd => ?_
  have oa : H' a = some o := x.at hn ho
  refine q v d H' p (XO.by_ fun b u nb hb => x.at (fun m => nb (List.mem_cons_of_mem _ m)) hb) f (Dt.tk (fun b u nu hb => ?_) _ _ (hP _ p) hd)
  have hb' := Bs_sub _ _ b u hb
  rw [Bs_out, hb']
  intro m
  rcases List.mem_cons.mp m with e | m
  · subst e; rw [oa] at hb'; cases hb'; exact nu mo
  · rw [Bs_none m] at hb; cases hb
end

/-! ### promises -/
def spD (K : PySem.W.Frag) (P : List PyData → PyData → Prop) : Sp := fun vs H Q _ => ∃ ds d, P ds d ∧ DtA K H vs ds ∧ ∀ v H', Ex H H' → Dt K H' v d → Q v H'
def spN (K : PySem.W.Frag) (P : List PyData → List PyData → Prop) : Sp := fun vs H Q _ => ∃ ds es, P ds es ∧ DtA K H vs ds ∧ ∀ p xs H', H p = none → Ex H H' → H' p = some (.lst xs) → DtA K H' xs es → Q (.ref p) H'
section
variable {K : PySem.W.Frag} {env : List Sl} {ta : TA} {ds es : List PyData} {d : PyData} {E : XK} {P : List PyData → PyData → Prop} {PN : List PyData → List PyData → Prop}
theorem vd_call (h : VA K ta env ds) (p : P ds d) : VD K (tCall (spD K P) [] E ta) env d := fun σ B s H1 e Q q => h σ B s H1 e _ fun vs H2 e2 hv => by
  rw [List.append_nil]
  exact ⟨ds, d, p, hv, fun v H3 e3 h3 => q v H3 (e2.trans e3) h3⟩
theorem vn_call (h : VA K ta env ds) (p : PN ds es) : VN K (tCall (spN K PN) [] E ta) env es := fun σ B s H1 e Q q => h σ B s H1 e _ fun vs H2 e2 hv => by
  rw [List.append_nil]
  exact ⟨ds, es, p, hv, fun p xs H3 hp e3 h3 h4 => q p xs H3 (e2.back hp) (e2.trans e3) h3 h4⟩
theorem body_D {N : List Str} {t : TS} {F : As} {vs : List V} {H : Hp} {Q : VK} (hb : ∀ ds d, P ds d → VS K [] As.emp t (enter N ds) (.rt (· = d) F)) (h : spD K P vs H Q E) : t { nx := fun _ H' => Q .non H', rt := Q } (L2.start N vs) H := by
  obtain ⟨ds, d, p, hd, q⟩ := h
  refine hb ds d p _ _ H ⟨fun a m => (by cases m), by rw [Bs_nil]; exact Sg.start hd, trivial⟩ fun v d' H' e x _ hv => ?_
  subst e
  refine q v H' ?_ (by rw [Bs_nil] at hv; exact hv)
  unfold XO at x
  rw [Bs_nil, Bs_nil] at x
  exact x
theorem body_N {N : List Str} {t : TS} {F : As} {vs : List V} {H : Hp} {Q : VK} (hb : ∀ ds es, PN ds es → VS K [] As.emp t (enter N ds) (.rn (· = es) F)) (h : spN K PN vs H Q E) : t { nx := fun _ H' => Q .non H', rt := Q } (L2.start N vs) H := by
  obtain ⟨ds, d, p, hd, q⟩ := h
  refine hb ds d p _ _ H ⟨fun a m => (by cases m), by rw [Bs_nil]; exact Sg.start hd, trivial⟩ fun v xs d' H' e x _ _ hp hv hw => ?_
  subst e
  refine q v xs H' hp ?_ hv (by rw [Bs_nil] at hw; exact hw)
  unfold XO at x
  rw [Bs_nil, Bs_nil] at x
  exact x
end
end NB
end S_NbT

section S_NbR
set_option Elab.async false
set_option linter.all false
set_option maxRecDepth 100000
set_option maxHeartbeats 4000000
namespace NB
open PySem PySem.Spec PyProof.Rows L2
open Evl (Ex)
theorem tuple_mul1 (l : Addr) (items : Array Value) (n : Nat) (dd : Option Addr) (sl : Array (Option Value)) (u : Tok) :
    Meets (Builtin.«tuple.__mul__» ⟨[.ref l, .int 1 u], []⟩) (fun _ R s => s.heap.get? l = some { cls := .type "tuple", dict := dd, data := .seq items n, slots := sl } ∧
      R (.ok (.ret (Value.ref l))) s) :=
  .of_wp fun prog w A R s h => by
    obtain ⟨hp, g, d, tk, os⟩ := s
    obtain ⟨hl, h⟩ := h
    have f1 := AutoSeq1.idx_int
    wp_walk using wpAny_loadPart' hl
    exact ⟨_, rfl, h⟩
def rRepT1 (K : PySem.W.Frag) : R2 := fun x y H Q => ∃ l xs, x = .ref l ∧ y = .int 1 ∧ SqT K H l xs ∧ Q (.ref l) H
section
variable {X : Cx}
theorem op_repT1 : OpR X (binaryOp .Mult) (rRepT1 X.K) := by
  intro pins s σ H x y v u Q I rx ry h
  obtain ⟨l, xs, rfl, rfl, hT, q⟩ := h
  cases rx
  obtain ⟨t, rfl⟩ := ry
  obtain ⟨its, r, ⟨⟨cls, dd, data, sl⟩, ho, hc, n, hd⟩, hs⟩ := I.tuple hT
  simp only at hc hd
  subst hc hd
  refine wpAny_binaryOp_repeat_ref (T := "tuple") (U := "int") (by decide) ⟨_, ho, rfl⟩ (fun s' => typeIs_int s' 1 t) noFill_tuple_mul F.fills_int_mul F.slot_int_rmul repeat_tuple F.slot_int_index.lookup
    (call_meets F.slot_int_rmul (typeIs_int s 1 t) F.entry_int_rmul (F.args_int_rmul_2 _ _) (int_rmul_tuple 1 t l its.toArray n dd sl)
      ⟨ho, rfl, ⟨_, ho, rfl⟩, call_meets F.slot_tuple_mul ⟨_, ho, rfl⟩ F.entry_tuple_mul (F.args_tuple_mul_2 _ _) (tuple_mul1 l its.toArray n dd sl t) ⟨ho, ?_⟩⟩)
  exact ⟨.ref l, H, I, rfl, q⟩
end

/-! ### one rule for each sign -/
def rAddG (K : PySem.W.Frag) : R2 := fun x y H Q => rI0 (fun i j => .int (i + j)) x y H Q ∨ rCat x y H Q ∨ rCatA K x y H Q
def rMulG (K : PySem.W.Frag) : R2 := fun x y H Q => rI CMulW (fun i j => .int (i * j)) x y H Q ∨ rI CMul (fun i j => .int (i * j)) x y H Q ∨ rRep x y H Q ∨ rRepT K x y H Q ∨ rRepT1 K x y H Q
def rIsG : R2 := fun x y H Q => (y = .non ∧ Q (.bl (decide (x = .non))) H) ∨ rIsB x y H Q
section
variable {X : Cx}
theorem op_addG : OpR X (binaryOp .Add) (rAddG X.K) := op_add.or (op_cat.or op_catA)
theorem op_mulG : OpR X (binaryOp .Mult) (rMulG X.K) := op_mulW.or (op_mul.or (op_rep.or (op_repT.or op_repT1)))
theorem op_isG : OpR X (compareOp .Is) rIsG := op_isN.or op_isBl
end
section
variable {K : PySem.W.Frag} {d a b : PyData} {ds es : List PyData} {i j : Int}
theorem rd_of {r r' : R2} (h : RDD K r a b d) (i : ∀ x y H Q, r x y H Q → r' x y H Q) : RDD K r' a b d := fun H x y hx hy Q q => i _ _ _ _ (h H x y hx hy Q q)
theorem rd_add : RDD K (rAddG K) (.int i) (.int j) (.int (i + j)) := rd_of rd_I0 fun _ _ _ _ h => .inl h
theorem rd_catL (hl : ds.length + es.length ≤ 100000) : RDD K (rAddG K) (.list ds) (.list es) (.list (ds ++ es)) := rd_of (rd_cat hl) fun _ _ _ _ h => .inr (.inl h)
theorem rd_catT (hl : ds.length + es.length ≤ 100000) : RDD K (rAddG K) (.tuple ds) (.tuple es) (.tuple (ds ++ es)) := fun H x y hx hy Q q => by
  obtain ⟨p, xs, rfl, hp, hxs⟩ := dt_tup hx
  obtain ⟨p2, ys, rfl, hp2, hys⟩ := dt_tup hy
  refine .inr (.inr ⟨p, p2, xs, ys, rfl, rfl, hp, hp2, by rw [hxs.len, hys.len]; exact Nat.le_trans hl (by decide), fun e => ?_, fun e1 e2 => ?_, fun e1 e2 z hz => ?_⟩)
  · subst e
    cases hxs
    exact q _ H (Ex.refl _) hy
  · subst e2
    cases hys
    rw [List.append_nil] at q
    exact q _ H (Ex.refl _) hx
  · exact q _ _ (Ex.new hz) (.tup (SqT.of upd_same) (DtA.ex (Ex.new hz) _ _ (hxs.app hys)))
theorem rd_mulW (hc : CMulW i j) : RDD K (rMulG K) (.int i) (.int j) (.int (i * j)) := rd_of (rd_I hc) fun _ _ _ _ h => .inl h
theorem rd_mul (hc : CMul i j) : RDD K (rMulG K) (.int i) (.int j) (.int (i * j)) := rd_of (rd_I hc) fun _ _ _ _ h => .inr (.inl h)
theorem rd_repL {n : Nat} (h1 : n ≤ 1000) (h2 : ds.length ≤ 100) : RDD K (rMulG K) (.list ds) (.int (n : Nat)) (.list (List.replicate n ds).flatten) := fun H x y hx hy Q q => by
  obtain ⟨p, xs, rfl, hp, hxs⟩ := dt_lst hx
  rw [dt_int hy]
  have hn : ((n : Nat) : Int).toNat = n := by simp
  refine .inr (.inr (.inl ⟨p, (n : Nat), xs, rfl, rfl, hp, by omega, by omega, ?_, fun z hz => q _ _ (Ex.new hz) (.lst upd_same (DtA.ex (Ex.new hz) _ _ ?_))⟩))
  · rw [hn, hxs.len]
    exact Nat.le_trans (Nat.mul_le_mul h2 h1) (by decide)
  · rw [hn]
    clear q hy h1 hn
    induction n with
    | zero => exact .nil
    | succ n ih => rw [List.replicate_succ, List.replicate_succ, List.flatten_cons, List.flatten_cons]; exact hxs.app ih
theorem rd_repT {n : Nat} (h0 : 0 < n) (h1 : n ≤ 1000) (hz : ds ≠ []) (h2 : ds.length ≤ 100) : RDD K (rMulG K) (.tuple ds) (.int (n : Nat)) (.tuple (List.replicate n ds).flatten) := fun H x y hx hy Q q => by
  obtain ⟨p, xs, rfl, hp, hxs⟩ := dt_tup hx
  rw [dt_int hy]
  by_cases e : n = 1
  · subst e
    refine .inr (.inr (.inr (.inr ⟨p, xs, rfl, rfl, hp, q _ H (Ex.refl _) ?_⟩)))
    simpa using hx
  · have hn : ((n : Nat) : Int).toNat = n := by simp
    refine .inr (.inr (.inr (.inl ⟨p, (n : Nat), xs, rfl, rfl, hp, ?_, by omega, by omega, by rw [hxs.len]; omega, fun z hz => q _ _ (Ex.new hz) (.tup (SqT.of upd_same) (DtA.ex (Ex.new hz) _ _ ?_))⟩)))
    · intro z
      subst z
      cases hxs
      exact hz rfl
    · rw [hn]
      clear q hy h1 hn e h0
      induction n with
      | zero => exact .nil
      | succ n ih => rw [List.replicate_succ, List.replicate_succ, List.flatten_cons, List.flatten_cons]; exact hxs.app ih
theorem rd_fdiv (h : CDivW i j) : RDD K (rI CDivW fun i j => .int (i / j)) (.int i) (.int j) (.int (i / j)) := rd_I h
theorem rd_mod (h : 0 < j) : RDD K (rI (fun _ j => 0 < j) fun i j => .int (i % j)) (.int i) (.int j) (.int (i % j)) := rd_I h
theorem rd_isT {b : Bool} : RDD K rIsG (.bool b) (.bool true) (.bool b) := fun H x y hx hy Q q => by
  rw [dt_bool hx, dt_bool hy]
  refine .inr ⟨b, true, rfl, rfl, q _ H (Ex.refl _) ?_⟩
  cases b <;> exact .bl _
theorem rd_isN : RDD K rIsG d .none (.bool (match d with | .none => true | _ => false)) := fun H x y hx hy Q q => by
  cases hy
  refine .inl ⟨rfl, q _ H (Ex.refl _) ?_⟩
  cases hx
  all_goals first | exact .bl _
theorem rd_ix {n : Nat} (h : ds[n]? = some d) : RDD K (rIx K) (.tuple ds) (.int (n : Nat)) d := fun H x y hx hy Q q => by
  obtain ⟨p, xs, rfl, hp, hxs⟩ := dt_tup hx
  obtain ⟨v, h1, h2⟩ := hxs.at h
  rw [dt_int hy]
  exact .inr (.inl ⟨p, xs, (n : Nat), v, rfl, rfl, hp, atI_nat h1, q v H (Ex.refl _) h2⟩)
theorem rd_ixL {n : Nat} (h : ds[n]? = some d) : RDD K (rIx K) (.list ds) (.int (n : Nat)) d := fun H x y hx hy Q q => by
  obtain ⟨p, xs, rfl, hp, hxs⟩ := dt_lst hx
  obtain ⟨v, h1, h2⟩ := hxs.at h
  rw [dt_int hy]
  exact .inl ⟨p, xs, (n : Nat), v, rfl, rfl, SqL.of hp, atI_nat h1, q v H (Ex.refl _) h2⟩
theorem rd_ix0 (h : ds[0]? = some d) : RDD K (rIx K) (.tuple ds) (.int 0) d := rd_ix (n := 0) h
theorem rd_ix1 (h : ds[1]? = some d) : RDD K (rIx K) (.tuple ds) (.int 1) d := rd_ix (n := 1) h
theorem rd_ixL0 (h : ds[0]? = some d) : RDD K (rIx K) (.list ds) (.int 0) d := rd_ixL (n := 0) h
theorem rd_ixL1 (h : ds[1]? = some d) : RDD K (rIx K) (.list ds) (.int 1) d := rd_ixL (n := 1) h
/-- slices of lists -/
def cutD (xs : List PyData) (lo hi : Option Int) : List PyData := (xs.drop (HT.sIx xs.length 0 lo)).take (HT.sIx xs.length xs.length hi - HT.sIx xs.length 0 lo)
end

/-! ### calls -/
def rSumG (K : PySem.W.Frag) : List V → Hp → VK → Prop := fun vs H Q => rSum K vs H Q ∨ ∃ (a : Addr) (ns : List Int), vs = [V.ref a] ∧ SqT K H a (ns.map V.int) ∧ Q (.int ns.sum) H
def rAnyG (K : PySem.W.Frag) : List V → Hp → VK → Prop := fun vs H Q => rAny K vs H Q ∨ ∃ (a : Addr) (ns : List Int), vs = [V.ref a] ∧ SqT K H a (ns.map V.int) ∧ Q (.bl (ns.any fun n => n != 0)) H
section
variable {X : Cx}
theorem cr_sumT (hc : X.calm = true) : CallR X (.builtin "sum") (fun vs H Q => ∃ (a : Addr) (ns : List Int), vs = [V.ref a] ∧ SqT X.K H a (ns.map V.int) ∧ Q (.int ns.sum) H) := by
  intro pins s σ H vs us Q I r h
  obtain ⟨a, ns, rfl, hs, q⟩ := h
  obtain ⟨its, rv, hl, _⟩ := I.tuple hs
  rw [Vals.ref1 r]
  have hi := rv.ints
  obtain ⟨xs, e⟩ := hi.allInts.items
  have hn : numsOf (intItems xs).toList = ns := by rw [← e]; exact hi.numsOf
  rw [nums_intItems] at hn
  have hl' : s.heap.IsTuple a its.toArray := hl
  rw [e] at hl'
  refine PySem.W.ktm_sumG (I.ok.hd hc) hl' fun h' tk t' hk => ?_
  rw [preSum_eq, List.take_of_length_le (by simp), hn]
  exact ⟨.int _, H, I.kept hk, ⟨_, rfl⟩, q⟩
theorem cr_sumG (hc : X.calm = true) : CallR X (.builtin "sum") (rSumG X.K) := (cr_sum hc).or (cr_sumT hc)
theorem truth_intsG {prog : Program} {w : World} {A : Around} {ns : List Int} : ∀ {its : List Value}, IntsAre its ns →
    TruthOf prog w A (fun i v => its.toArray[i]? = some v) (fun i => (ns.getD i 0) != 0) := fun {its} e i v s Q E hv hq => by
  have hv' : its[i]? = some v := by simpa using hv
  obtain ⟨n, t, hn, rfl⟩ : ∃ n t, ns[i]? = some n ∧ v = .int n t := by
    have hl := e.length
    have hi : i < its.length := (List.getElem?_eq_some_iff.mp hv').1
    have hi2 : i < ns.length := by omega
    obtain ⟨t, ht⟩ := e.get i ns[i] (List.getElem?_eq_getElem hi2)
    rw [hv'] at ht
    exact ⟨_, t, List.getElem?_eq_getElem hi2, Option.some.inj ht⟩
  have hg : ns.getD i 0 = n := by rw [List.getD_eq_getElem?_getD, hn] <;> rfl
  have hq : Q (ns.getD i 0 != 0) s := hq
  rw [hg] at hq
  exact truthy_int hq
theorem any_rangeI : ∀ ns : List Int, (List.range ns.length).any (fun i => (ns.getD i 0) != 0) = ns.any (fun n => n != 0)
  | [] => rfl
  | b :: bs => by
    rw [List.length_cons, List.range_succ_eq_map, List.any_cons, List.any_map, List.any_cons, ← any_rangeI bs]
    all_goals rfl
theorem cr_anyT (hc : X.calm = true) : CallR X (.builtin "any") (fun vs H Q => ∃ (a : Addr) (ns : List Int), vs = [V.ref a] ∧ SqT X.K H a (ns.map V.int) ∧ Q (.bl (ns.any fun n => n != 0)) H) := by
  intro pins s σ H vs us Q I r h
  obtain ⟨a, ns, rfl, hs, q⟩ := h
  obtain ⟨its, rv, hl, _⟩ := I.tuple hs
  rw [Vals.ref1 r]
  have hi := rv.ints
  have hl' : s.heap.IsTuple a its.toArray := hl
  obtain ⟨o, ho, _⟩ := id hl'
  have hne : a ≠ s.heap.objs.size := Nat.ne_of_lt (Heap.lt_size ho)
  refine call_any_walk (wpAny_pyIter_tuple hl' ?_)
  refine ⟨_, _, _, _, _, _, _, rfl, Walks.tuple (A := X.A.in1) (I.ok.hd hc) s.heap.objs.size a hne its.toArray, ⟨⟨_, Heap.get?_push_size _ rfl, rfl, rfl⟩, hl'.at fun o e => Heap.get?_push_of_some _ e⟩, truth_intsG hi, fun h' tk hk => ?_⟩
  refine ⟨.bl _, H, I.kept fun b o eo => hk b o (fun hmem => ?_) (Heap.get?_push_of_some _ eo), ?_, q⟩
  · rcases List.mem_cons.mp hmem with e1 | hmem
    · exact absurd (e1 ▸ Heap.lt_size eo) (Nat.lt_irrefl _)
    · cases hmem
  · show Value.bool _ = Value.bool _
    rw [← any_rangeI, List.size_toArray, hi.length]
theorem cr_anyG (hc : X.calm = true) : CallR X (.builtin "any") (rAnyG X.K) := (cr_any hc).or (cr_anyT hc)
end
def iSeq (K : PySem.W.Frag) (tl : TE) : TI := fun σ H R => tl σ H fun x H1 => ∃ a, x = .ref a ∧ (((∃ xs, SqL K H1 a xs) ∧ R (Itl K a) H1) ∨ ((∃ xs, SqT K H1 a xs) ∧ R (Itt K a) H1))
theorem pi_seq {X : Cx} {tg : Expr} {l : Expr} {tl : TE} (hl : PE X l tl) : PI X tg l (iSeq X.K tl) := by
  refine ⟨fun pins s σ H R I h => ?_⟩
  refine thn (hl.run pins s σ H _ I h) fun v s1 ⟨x, H1, I1, r1, q1⟩ => ?_
  obtain ⟨a, e, q⟩ := q1
  subst e
  cases r1
  rcases q with ⟨⟨xs, hq⟩, q⟩ | ⟨⟨xs, hq⟩, q⟩
  · obtain ⟨its, rv, p, hz⟩ := I1.list hq
    refine wpAny_pyIter_list p.isList ?_
    refine ⟨s1.heap.objs.size, [s1.heap.objs.size], _, _, H1, rfl, I1.kept (t' := s1.toks) fun b o e => Heap.get?_push_of_some _ e, turn_list a _, ⟨_, Heap.get?_push_size _ rfl, rfl, rfl⟩, fun b hb => ?_, q⟩
    have e : b = s1.heap.objs.size := by simpa using hb
    subst e
    exact I1.fpOk (Nat.le_refl _) (I1.hok.fresh (Nat.le_refl _))
  · obtain ⟨its, rv, p, hz⟩ := I1.tuple hq
    refine wpAny_pyIter_tuple (show s1.heap.IsTuple a its.toArray from p) ?_
    refine ⟨s1.heap.objs.size, [s1.heap.objs.size], _, _, H1, rfl, I1.kept (t' := s1.toks) fun b o e => Heap.get?_push_of_some _ e, turn_tuple a _, ⟨_, Heap.get?_push_size _ rfl, rfl, rfl⟩, fun b hb => ?_, q⟩
    have e : b = s1.heap.objs.size := by simpa using hb
    subst e
    exact I1.fpOk (Nat.le_refl _) (I1.hok.fresh (Nat.le_refl _))
section
variable {K : PySem.W.Frag} {env : List Sl} {te : TE} {d : PyData} {ds es : List PyData} {a : Addr} {i : Int}
theorem vi_seqL (h : VB K te env (.list ds)) : VI K (iSeq K te) env ds := fun σ B s H1 e R q => h σ B s H1 e _ fun v H2 e2 hv => by
  obtain ⟨a, xs, rfl, h1, h2⟩ := dt_lst (hv H2 (Bok.all e e2))
  refine ⟨a, rfl, .inl ⟨⟨xs, SqL.of h1⟩, q _ H2 e2 fun B2 b => ?_⟩⟩
  obtain ⟨a', xs', e', g1, g2⟩ := dt_lst (hv B2 b)
  cases e'
  exact wk_lst g1 g2
theorem vi_seqT (h : VB K te env (.tuple ds)) : VI K (iSeq K te) env ds := fun σ B s H1 e R q => h σ B s H1 e _ fun v H2 e2 hv => by
  obtain ⟨a, xs, rfl, h1, h2⟩ := dt_tup (hv H2 (Bok.all e e2))
  refine ⟨a, rfl, .inr ⟨⟨xs, h1⟩, q _ H2 e2 fun B2 b => ?_⟩⟩
  obtain ⟨a', xs', e', g1, g2⟩ := dt_tup (hv B2 b)
  cases e'
  exact wk_tup g1 g2
def dInts (ns : List Int) : List PyData := ns.map .int
theorem dta_ints {H : Hp} : ∀ {ns : List Int} {vs : List V}, DtA K H vs (ns.map .int) → vs = ns.map V.int
  | [], _, h => by cases h; rfl
  | n :: ns, _, h => by
    cases h with
    | cons a t => rw [dt_int a, dta_ints t]; rfl
theorem dta_bls {H : Hp} : ∀ {ns : List Bool} {vs : List V}, DtA K H vs (ns.map .bool) → vs = ns.map V.bl
  | [], _, h => by cases h; rfl
  | n :: ns, _, h => by
    cases h with
    | cons a t => rw [dt_bool a, dta_bls t]; rfl
theorem dt_one {H : Hp} {vs : List V} (h : DtA K H vs [d]) : ∃ v, vs = [v] ∧ Dt K H v d := by
  cases h with
  | cons a t => cases t; exact ⟨_, rfl, a⟩
theorem dt_two {H : Hp} {vs : List V} {e : PyData} (h : DtA K H vs [d, e]) : ∃ v w, vs = [v, w] ∧ Dt K H v d ∧ Dt K H w e := by
  cases h with
  | cons a t =>
    cases t with
    | cons b t => cases t; exact ⟨_, _, rfl, a, b⟩
theorem rc_lenT : RCD K (fun xs H Q => ∃ p ys, xs = [.ref p] ∧ (SqL K H p ys ∨ SqT K H p ys) ∧ Q (.int ys.length) H) [.tuple ds] (.int (ds.length : Nat)) := fun H xs h Q q => by
  obtain ⟨v, rfl, h0⟩ := dt_one h
  replace h := h0
  obtain ⟨p, ys, rfl, hp, hy⟩ := dt_tup h
  exact ⟨p, ys, rfl, .inr hp, q _ H (Ex.refl _) (by rw [hy.len]; exact .int _)⟩
theorem rc_lenL : RCD K (fun xs H Q => ∃ p ys, xs = [.ref p] ∧ (SqL K H p ys ∨ SqT K H p ys) ∧ Q (.int ys.length) H) [.list ds] (.int (ds.length : Nat)) := fun H xs h Q q => by
  obtain ⟨v, rfl, h0⟩ := dt_one h
  replace h := h0
  obtain ⟨p, ys, rfl, hp, hy⟩ := dt_lst h
  exact ⟨p, ys, rfl, .inl (SqL.of hp), q _ H (Ex.refl _) (by rw [hy.len]; exact .int _)⟩
theorem rc_abs : RCD K (fun xs H Q => ∃ i, xs = [.int i] ∧ Q (.int (if i < 0 then -i else i)) H) [.int i] (.int (i.natAbs : Nat)) := fun H xs h Q q => by
  obtain ⟨v, rfl, h0⟩ := dt_one h
  replace h := h0
  refine ⟨i, by rw [dt_int h], q _ H (Ex.refl _) ?_⟩
  have : (if i < 0 then -i else i) = (i.natAbs : Nat) := by split <;> omega
  rw [this]; exact .int _
theorem rc_int : RCD K (fun xs H Q => (∃ i, xs = [.int i] ∧ Q (.int i) H) ∨ ∃ k, xs = [.bl k] ∧ Q (.int (if k then 1 else 0)) H) [.int i] (.int i) := fun H xs h Q q => by
  obtain ⟨v, rfl, h0⟩ := dt_one h
  replace h := h0
  exact .inl ⟨i, by rw [dt_int h], q _ H (Ex.refl _) (.int _)⟩
theorem rc_intB {b : Bool} : RCD K (fun xs H Q => (∃ i, xs = [.int i] ∧ Q (.int i) H) ∨ ∃ k, xs = [.bl k] ∧ Q (.int (if k then 1 else 0)) H) [.bool b] (.int (if b then 1 else 0)) := fun H xs h Q q => by
  obtain ⟨v, rfl, h0⟩ := dt_one h
  replace h := h0
  exact .inr ⟨b, by rw [dt_bool h], q _ H (Ex.refl _) (.int _)⟩
theorem rcn_listT : RCN K (fun xs H Q => ∃ p ys, xs = [.ref p] ∧ (SqL K H p ys ∨ SqT K H p ys) ∧ ∀ l, H l = none → Q (.ref l) (upd H l (.lst ys))) [.tuple ds] ds := fun H xs h Q q => by
  obtain ⟨v, rfl, h0⟩ := dt_one h
  replace h := h0
  obtain ⟨p, ys, rfl, hp, hy⟩ := dt_tup h
  exact ⟨p, ys, rfl, .inr hp, fun l hl => q l ys _ hl (Ex.new hl) upd_same (DtA.ex (Ex.new hl) _ _ hy)⟩
theorem rcn_listL : RCN K (fun xs H Q => ∃ p ys, xs = [.ref p] ∧ (SqL K H p ys ∨ SqT K H p ys) ∧ ∀ l, H l = none → Q (.ref l) (upd H l (.lst ys))) [.list ds] ds := fun H xs h Q q => by
  obtain ⟨v, rfl, h0⟩ := dt_one h
  replace h := h0
  obtain ⟨p, ys, rfl, hp, hy⟩ := dt_lst h
  exact ⟨p, ys, rfl, .inl (SqL.of hp), fun l hl => q l ys _ hl (Ex.new hl) upd_same (DtA.ex (Ex.new hl) _ _ hy)⟩
theorem rc_tupL : RCD K (fun xs H Q => ∃ p ys, xs = [.ref p] ∧ ((SqL K H p ys ∧ ∀ l, H l = none → Q (.ref l) (upd H l (.tup ys))) ∨ (SqT K H p ys ∧ Q (.ref p) H))) [.list ds] (.tuple ds) := fun H xs h Q q => by
  obtain ⟨v, rfl, h0⟩ := dt_one h
  replace h := h0
  obtain ⟨p, ys, rfl, hp, hy⟩ := dt_lst h
  exact ⟨p, ys, rfl, .inl ⟨SqL.of hp, fun l hl => q _ _ (Ex.new hl) (.tup (SqT.of upd_same) (DtA.ex (Ex.new hl) _ _ hy))⟩⟩
theorem rc_tupT : RCD K (fun xs H Q => ∃ p ys, xs = [.ref p] ∧ ((SqL K H p ys ∧ ∀ l, H l = none → Q (.ref l) (upd H l (.tup ys))) ∨ (SqT K H p ys ∧ Q (.ref p) H))) [.tuple ds] (.tuple ds) := fun H xs h Q q => by
  obtain ⟨v, rfl, h0⟩ := dt_one h
  replace h := h0
  obtain ⟨p, ys, rfl, hp, hy⟩ := dt_tup h
  exact ⟨p, ys, rfl, .inr ⟨hp, q _ H (Ex.refl _) (.tup hp hy)⟩⟩
theorem rc_sumL {ns : List Int} : RCD K (rSumG K) [.list (ns.map .int)] (.int ns.sum) := fun H xs h Q q => by
  obtain ⟨v, rfl, h0⟩ := dt_one h
  replace h := h0
  obtain ⟨p, ys, rfl, hp, hy⟩ := dt_lst h
  rw [dta_ints hy] at hp
  exact .inl ⟨p, ns, rfl, SqL.of hp, q _ H (Ex.refl _) (.int _)⟩
theorem rc_sumT {ns : List Int} : RCD K (rSumG K) [.tuple (ns.map .int)] (.int ns.sum) := fun H xs h Q q => by
  obtain ⟨v, rfl, h0⟩ := dt_one h
  replace h := h0
  obtain ⟨p, ys, rfl, hp, hy⟩ := dt_tup h
  rw [dta_ints hy] at hp
  exact .inr ⟨p, ns, rfl, hp, q _ H (Ex.refl _) (.int _)⟩
theorem rc_anyT {ns : List Int} : RCD K (rAnyG K) [.tuple (ns.map .int)] (.bool (ns.any fun n => n != 0)) := fun H xs h Q q => by
  obtain ⟨v, rfl, h0⟩ := dt_one h
  replace h := h0
  obtain ⟨p, ys, rfl, hp, hy⟩ := dt_tup h
  rw [dta_ints hy] at hp
  exact .inr ⟨p, ns, rfl, hp, q _ H (Ex.refl _) (.bl _)⟩
theorem rc_anyL {bs : List Bool} : RCD K (rAnyG K) [.list (bs.map .bool)] (.bool (bs.any id)) := fun H xs h Q q => by
  obtain ⟨v, rfl, h0⟩ := dt_one h
  replace h := h0
  obtain ⟨p, ys, rfl, hp, hy⟩ := dt_lst h
  rw [dta_bls hy] at hp
  exact .inl ⟨p, bs, rfl, SqL.of hp, q _ H (Ex.refl _) (.bl _)⟩
theorem rc_allL {bs : List Bool} : RCD K (rAll K) [.list (bs.map .bool)] (.bool (bs.all id)) := fun H xs h Q q => by
  obtain ⟨v, rfl, h0⟩ := dt_one h
  replace h := h0
  obtain ⟨p, ys, rfl, hp, hy⟩ := dt_lst h
  rw [dta_bls hy] at hp
  exact ⟨p, bs, rfl, SqL.of hp, q _ H (Ex.refl _) (.bl _)⟩
theorem rc_gcd {i j : Int} : RCD K rGcd [.int i, .int j] (.int ((Nat.gcd i.natAbs j.natAbs : Nat) : Int)) := fun H xs h Q q => by
  obtain ⟨v, w, rfl, h1, h2⟩ := dt_two h
  exact ⟨i, j, by rw [dt_int h1, dt_int h2], q _ H (Ex.refl _) (.int _)⟩
end
end NB
end S_NbR

section S_NbZ
set_option Elab.async false
set_option linter.all false
set_option maxRecDepth 100000
set_option maxHeartbeats 4000000
namespace NB
open PySem PySem.Spec PyProof.Rows L2
open Evl (Ex)

/-! ### rows of either kind: lists (true), tuples -/
def SqK (k : Bool) (K : PySem.W.Frag) (H : Hp) (a : Addr) (xs : List V) : Prop := match k with | true => SqL K H a xs | false => SqT K H a xs
def SeqK (k : Bool) (h : Heap) (a : Addr) (its : Array Value) : Prop := match k with | true => h.IsList a its | false => h.IsTuple a its
def ItK (k : Bool) (h : Heap) (it a : Addr) (i : Nat) : Prop := match k with | true => h.IsListIter it a i | false => h.IsTupleIter it a i
def itO (k : Bool) (a : Addr) : Obj := { cls := .type (if k then "list_iterator" else "tuple_iterator"), data := .fields #[.ref a, .int 0 0] }
section
variable {X : Cx} {pins : List (Addr × Obj)} {σ : L2.St} {H : Hp} {s : Shared} {k : Bool} {a : Addr} {xs ys : List V}
theorem seqK (I : Inv X pins σ H s) (h : SqK k X.K H a xs) : ∃ its, Vals xs its ∧ SeqK k s.heap a its.toArray := by
  cases k with
  | true =>
    obtain ⟨its, rv, p, _⟩ := I.list h
    exact ⟨its, rv, p.isList⟩
  | false =>
    obtain ⟨its, rv, p, _⟩ := I.tuple h
    exact ⟨its, rv, p⟩
theorem seqK_inj (I : Inv X pins σ H s) (h : SqK k X.K H a xs) (h' : SqK k X.K H a ys) : xs = ys := by
  cases k with
  | true => exact I.list_inj h h'
  | false => exact I.tuple_inj h h'
theorem SeqK.lt {h : Heap} {its : Array Value} (q : SeqK k h a its) : a < h.objs.size := by
  cases k with
  | true => obtain ⟨_, e, _⟩ := q; exact Heap.lt_size e
  | false => obtain ⟨_, e, _⟩ := q; exact Heap.lt_size e
theorem ItK.at {h h' : Heap} {it : Addr} {i : Nat} (q : ItK k h it a i) (e : ∀ o, h.get? it = some o → h'.get? it = some o) : ItK k h' it a i := by
  cases k with
  | true => exact Heap.IsListIter.at q e
  | false => exact Heap.IsTupleIter.at q e
theorem ItK.obj {h : Heap} {it : Addr} {i : Nat} (q : ItK k h it a i) : ∃ o, h.get? it = some o ∧ ∀ v, o.data ≠ .cell v := by
  cases k with
  | true => obtain ⟨o, e, _, d⟩ := q; exact ⟨o, e, fun v z => by rw [d] at z; cases z⟩
  | false => obtain ⟨o, e, _, d⟩ := q; exact ⟨o, e, fun v z => by rw [d] at z; cases z⟩
theorem ItK.new {h : Heap} {it : Addr} (e : h.get? it = some (itO k a)) : ItK k h it a 0 := by
  cases k with
  | true => exact ⟨_, e, rfl, rfl⟩
  | false => exact ⟨_, e, rfl, rfl⟩
theorem draws_k {prog : Program} {w : World} {A : Around} (hh : A.handled = none) (k : Bool) (it a : Addr) (hne : a ≠ it) (items : Array Value) :
    Draws prog w A it [it, a] items.size (fun i v => items[i]? = some v) (fun i h => ItK k h it a i ∧ SeqK k h a items) := by
  cases k with
  | true => exact Draws.list hh it a hne items
  | false => exact Draws.tuple hh it a hne items
theorem begins_k (k : Bool) (a : Addr) (items : Array Value) : Begins (.ref a) (itO k a) fun h => SeqK k h a items := by
  cases k with
  | true => exact begins_list a items
  | false => exact begins_tuple a items
end

/-! ### enumerate -/
theorem meets_enum1 {v : Value} {o : Obj} {H : Heap → Prop} (B : Begins v o H) :
    Meets (Builtin.«enumerate.__new__» ⟨[.type "enumerate", v], []⟩) (fun _ R s => H s.heap ∧
      R (.ok (.ret (.ref (s.heap.push o).objs.size))) { s with heap := (s.heap.push o).push { cls := .type "enumerate", data := .fields #[.none, .bool false, .ref s.heap.objs.size, rawInt 0, .none, .none] } }) :=
  .of_wp fun prog w A R s h => by
    obtain ⟨hp, g, d, tk, os⟩ := s; obtain ⟨h1, h⟩ := h
    have hsub := sub_enumerate
    have q1 : ∀ {A' : Around} {E : Value → Shared → Prop} {Q : Value → Shared → Prop}, Q (.ref hp.objs.size) ⟨hp.push o, g, d, tk, os⟩ → wpAny (model prog w) A' (pyIter v) Q E ⟨hp, g, d, tk, os⟩ :=
      fun q => B.iter prog w _ _ ⟨hp, g, d, tk, os⟩ _ h1 q
    wp_walk using q1
    refine wpAny_stack_any fun st => wpAny_pure ?_
    split
    · rename_i c _ _ _ _ _
      cases (c == Value.type "enumerate")
      · wp_walk using q1
        exact ⟨_, rfl, h⟩
      · wp_walk using q1
        exact ⟨_, rfl, h⟩
    · wp_walk using q1
      exact ⟨_, rfl, h⟩
theorem enum_begins1 {prog : Program} {w : World} {A : Around} {E : Value → Shared → Prop} {s : Shared} {v : Value} {o : Obj} {H : Heap → Prop} {Q : Value → Shared → Prop} (B : Begins v o H) (h1 : H s.heap)
    (h : ∀ h', IsEnum h' (s.heap.objs.size + 1) s.heap.objs.size 0 .none → h'.get? s.heap.objs.size = some o → h'.objs.size = s.heap.objs.size + 2 →
      (∀ b o, s.heap.get? b = some o → h'.get? b = some o) → Q (.ref (s.heap.objs.size + 1)) { s with heap := h' }) :
    wpAny (model prog w) A (call (.type "enumerate") [v]) Q E s := by
  refine callType_new F.called_enumerate (by decide) (F.typeCall_enumerate_1 _) (F.newCall_enumerate_1 _) (fun obj => F.args_object_init_2 obj _) F.entry_enumerate_new
    (meets_enum1 B) ⟨h1, ?_⟩
  have hz : (s.heap.push o).objs.size = s.heap.objs.size + 1 := Heap.size_push ..
  show _ ∧ _
  rw [hz]
  have he : IsEnum ((s.heap.push o).push { cls := .type "enumerate", data := .fields #[.none, .bool false, .ref s.heap.objs.size, rawInt 0, .none, .none] }) (s.heap.objs.size + 1) s.heap.objs.size 0 .none := by
    have := Heap.get?_push_size (s.heap.push o) (o := { cls := .type "enumerate", data := .fields #[.none, .bool false, .ref s.heap.objs.size, rawInt 0, .none, .none] }) rfl
    rw [hz] at this; exact this
  refine ⟨⟨_, he, rfl⟩, h _ he (Heap.get?_push_of_some _ (Heap.get?_push_size _ B.free)) (by rw [Heap.size_push, hz]) fun b o x => Heap.get?_push_of_some _ (Heap.get?_push_of_some _ x)⟩
def IteK (k : Bool) (K : PySem.W.Frag) (a : Addr) : It :=
  ⟨fun i H => ∃ (xs : List V) (x : V), SqK k K H a xs ∧ xs[i]? = some x, fun i H v H' => ∃ T x, v = .ref T ∧ H T = none ∧ H' = upd H T (.tup [.int (i : Nat), x]) ∧ ∀ xs, SqK k K H a xs → xs[i]? = some x, fun i H => ∃ xs : List V, SqK k K H a xs ∧ xs.length = i⟩
theorem turn_enumK {P : Program} {w : World} {K : PySem.W.Frag} {elts : List Expr} {kk : Nat} {tpos : Pos} (k : Bool) (a e it : Addr) :
    Turn P w K (.Tuple elts kk tpos) (IteK k K a) [e, it] e (fun i h => (∃ old, IsEnum h e it ((i : Nat) : Int) old) ∧ ItK k h it a i ∧ e ≠ it ∧ a ≠ it ∧ e ≠ a) where
  mem := by simp
  obj := fun i h st b hb => by
    obtain ⟨⟨old, he⟩, hi, _⟩ := st
    have e' : b = e ∨ b = it := by simpa using hb
    rcases e' with z | z
    · rw [z]; exact ⟨_, he, fun v q => nomatch q⟩
    · rw [z]; exact hi.obj
  keep := fun i h h' st q => by
    obtain ⟨⟨old, he⟩, hi, hne⟩ := st
    exact ⟨⟨old, q e (by simp) _ he⟩, hi.at fun o r => q it (by simp) o r, hne⟩
  item := by
    intro X hP hw hK hc i pins s σ H E I hf st hg
    subst hP hw hK
    obtain ⟨⟨old, he⟩, hit, hne, hai, hea⟩ := st
    obtain ⟨xs, x, hq, hx⟩ := hg
    obtain ⟨its, rv, p⟩ := seqK I hq
    obtain ⟨u, hu, ru⟩ := rv.get hx
    have hel : e < s.heap.objs.size := Heap.lt_size he
    have hil : it < s.heap.objs.size := by obtain ⟨o, q, _⟩ := hit.obj; exact Heap.lt_size q
    have hlt : i < its.toArray.size := by
      have := (List.getElem?_eq_some_iff.mp hu).1
      simpa using this
    refine wpAny_pyNext_enum_itemC (draws_k (A := X.A.in1) (I.ok.hd hc) k it a hai its.toArray) he ⟨hit, p⟩ hlt hne (by simp [hne, hea]) fun u' h' tk hP ho hs' hT hsz hk => ?_
    have eu : u' = u := by
      have h1 : its[i]? = some u' := by simpa using hP
      rw [hu] at h1; exact (Option.some.inj h1).symm
    subst eu
    refine ⟨_, rfl, wpAny_letOwnedTupleGo_enum (s := { s with heap := h', toks := tk + 1 }) ho fun h'' he' sb => ?_⟩
    have hT2 : h''.get? s.heap.objs.size = some { cls := .type "tuple", data := .seq #[.int i tk, u'] } := (sb.2 _ (Nat.ne_of_gt hel)).trans hT
    have new : ObjOk X.prog X.w (upd H s.heap.objs.size (.tup [.int (i : Nat), x])) h'' s.heap.objs.size (.tup [.int (i : Nat), x]) :=
      ⟨by show 2 ≤ sizeLine; decide, [.int i tk, u'], .cons ⟨_, rfl⟩ (.cons ru .nil), ⟨_, hT2, rfl, _, rfl⟩⟩
    have I1 : Inv X pins σ (upd H s.heap.objs.size (.tup [.int (i : Nat), x])) { s with heap := h'', toks := tk + 1 } :=
      I.turnedNew (ch := [e, it]) (fun b ob hb q => (sb.2 b (fun z => hb (by simp [z]))).trans (hk b ob (fun z => hb (by simp [z])) (fun z => hb (by simp [z])) q)) hf (Nat.le_refl _) new
    refine ⟨.ref s.heap.objs.size, _, I1, rfl, ⟨_, x, rfl, I.hok.fresh (Nat.le_refl _), rfl, fun ys hy => by rw [seqK_inj I hy hq]; exact hx⟩, ⟨⟨u', ?_⟩, hs'.1.at fun o q => (sb.2 it (Ne.symm hne)).trans q, hne, hai, hea⟩, fun b hb => ?_⟩
    · have e1 : ((i + 1 : Nat) : Int) = (i : Int) + 1 := by omega
      rw [e1]; exact he'
    · have hb' : b < s.heap.objs.size := by
        have e' : b = e ∨ b = it := by simpa using hb
        rcases e' with z | z
        · rw [z]; exact hel
        · rw [z]; exact hil
      rw [upd_ne (Nat.ne_of_lt hb')]
      exact (hf b hb).1
  done := by
    intro X hP hw hK hc i pins s σ H E I hf st hg
    subst hP hw hK
    obtain ⟨⟨old, he⟩, hit, hne, hai, hea⟩ := st
    obtain ⟨xs, hq, hx⟩ := hg
    obtain ⟨its, rv, p⟩ := seqK I hq
    obtain ⟨f0, f1, f2, f3, f4, f5⟩ := hf it (by simp)
    have hl : its.toArray.size = i := by
      have := rv.length
      simp; omega
    refine wpAny_pyNext_enum_endD (draws_k (A := X.A.in1) (I.ok.hd hc) k it a hai its.toArray) he (by rw [hl]; exact ⟨hit, p⟩) fun h' eb => ⟨rfl, I.turned (t' := s.toks) (fun b o hb q => eb b o hb q) f0 f1 f3 f4 f5⟩
  self := fun A i s Q E st h => let ⟨⟨_, he⟩, _⟩ := st; wpAny_pyIter_enum he h
def iEnumG (K : PySem.W.Frag) (ta : TA) : TI := fun σ H R => ta σ H fun vs H1 => ∃ k a xs, vs = [.ref a] ∧ SqK k K H1 a xs ∧ R (IteK k K a) H1
theorem pi_enumG {X : Cx} {e : Expr} {ta : TA} {p pos tpos : Pos} {elts : List Expr} {kk : Nat} (hg : Gl X "enumerate") (hm : X.mg "enumerate" = none) (ha : PA X [e] ta) (hs : starEach [e] X.env = [(false, eval e X.env)] := by rfl) :
    PI X (.Tuple elts kk tpos) (.Call (.Name "enumerate" p) [e] [] pos) (iEnumG X.K ta) := by
  refine ⟨fun pins s σ H R I h => ?_⟩
  refine Call_ (ld_blt I hg hm boot_enumerate (PyProof.Rows.callWith_type1 (thn (ha.run pos pins s σ H _ I h) fun us s1 ⟨vs, H1, I1, r1, q1⟩ => ?_) hs rfl))
  obtain ⟨k, a, xs, ex, hq, q⟩ := q1
  subst ex
  cases r1 with
  | cons r rr =>
    cases rr
    cases r
    obtain ⟨its, rv, p'⟩ := seqK I1 hq
    have hlt := p'.lt
    refine enum_begins1 (begins_k k a its.toArray) p' fun h' he hit hsz hk => wpAny_pyIter_enum he ?_
    have I2 : Inv X pins σ H1 { s1 with heap := h' } := I1.kept (t' := s1.toks) hk
    refine ⟨s1.heap.objs.size + 1, [s1.heap.objs.size + 1, s1.heap.objs.size], _, _, H1, rfl, I2, turn_enumK k a (s1.heap.objs.size + 1) s1.heap.objs.size, ⟨⟨.none, he⟩, ItK.new hit, Nat.succ_ne_self _, Nat.ne_of_lt hlt, (Nat.ne_of_lt (Nat.lt_succ_of_lt hlt)).symm⟩, fun b hb => ?_, q⟩
    have e' : b = s1.heap.objs.size + 1 ∨ b = s1.heap.objs.size := by simpa using hb
    have hle : s1.heap.objs.size ≤ b := by
      rcases e' with z | z
      · rw [z]; exact Nat.le_add_right _ _
      · rw [z]; exact Nat.le_refl _
    exact I1.fpOk hle (I1.hok.fresh hle)
theorem walk_enumK {K : PySem.W.Frag} {k : Bool} {a : Addr} {xs : List V} : Walk (IteK k K a) xs.length (fun H => SqK k K H a xs) (YPair (fun i => some (.int (i : Nat))) (fun i => xs[i]?)) := by
  refine ⟨fun i _ hi q => ⟨xs, xs[i], q, by simp [hi]⟩, fun _ q => ⟨xs, q, rfl⟩, fun i H v H' _ q y => ?_⟩
  obtain ⟨T, x, h1, h2, h3, h4⟩ := y
  exact ⟨T, .int (i : Nat), x, h1, h2, h3, rfl, h4 xs q⟩

/-! ### zip -/
def ItzK (k l : Bool) (K : PySem.W.Frag) (a b : Addr) : It :=
  ⟨fun i H => ∃ (xs ys : List V) (x y : V), SqK k K H a xs ∧ SqK l K H b ys ∧ xs[i]? = some x ∧ ys[i]? = some y,
    fun i H v H' => ∃ T x y, v = .ref T ∧ H T = none ∧ H' = upd H T (.tup [x, y]) ∧ (∀ xs, SqK k K H a xs → xs[i]? = some x) ∧ ∀ ys, SqK l K H b ys → ys[i]? = some y,
    fun i H => ∃ xs ys : List V, SqK k K H a xs ∧ SqK l K H b ys ∧ i ≤ xs.length ∧ i ≤ ys.length ∧ (i = xs.length ∨ i = ys.length)⟩
theorem sep_of {z TI TO i1 i2 a b : Addr} (D : ZipApart z TI TO i1 i2 a b) : ZipSep2 z TI TO i1 i2 [i1, a] [i2, b] where
  TIz := D.TIz
  TOz := D.TOz
  TITO := D.TITO
  TIi1 := D.TIi1
  mem1 := by simp
  zf1 := by simp [Ne.symm D.i1z, Ne.symm D.l1z]
  Tf1 := by simp [D.TOi1, Ne.symm D.l1TO]
  TIi2 := D.TIi2
  mem2 := by simp
  zf2 := by simp [Ne.symm D.i2z, Ne.symm D.l2z]
  Tf2 := by simp [D.TOi2, Ne.symm D.l2TO]
  sep1_2 := by simp [D.i12, Ne.symm D.l2i1]
  sep2_1 := by simp [Ne.symm D.i12, Ne.symm D.l1i2]
theorem turn_zipK {P : Program} {w : World} {K : PySem.W.Frag} {elts : List Expr} {kk : Nat} {tpos : Pos} (k l : Bool) {a b z TI TO i1 i2 : Addr} (D : ZipApart z TI TO i1 i2 a b) :
    Turn P w K (.Tuple elts kk tpos) (ItzK k l K a b) [z, TI, TO, i1, i2] z (fun i h => IsZip h z TI TO .none ∧ IsTupOf2 h TI (.ref i1) (.ref i2) ∧ (∃ x y, IsTupOf2 h TO x y) ∧ ItK k h i1 a i ∧ ItK l h i2 b i) where
  mem := by simp
  obj := fun i h st c hc => by
    obtain ⟨hz, hTI, ⟨x, y, hTO⟩, h1, h2⟩ := st
    have e' : c = z ∨ c = TI ∨ c = TO ∨ c = i1 ∨ c = i2 := by simpa using hc
    rcases e' with q | q | q | q | q
    · rw [q]; exact ⟨_, hz, fun v q => nomatch q⟩
    · rw [q]; exact ⟨_, hTI, fun v q => nomatch q⟩
    · rw [q]; exact ⟨_, hTO, fun v q => nomatch q⟩
    · rw [q]; exact h1.obj
    · rw [q]; exact h2.obj
  keep := fun i h h' st q => by
    obtain ⟨hz, hTI, ⟨x, y, hTO⟩, h1, h2⟩ := st
    exact ⟨q z (by simp) _ hz, q TI (by simp) _ hTI, ⟨x, y, q TO (by simp) _ hTO⟩, h1.at fun o r => q i1 (by simp) o r, h2.at fun o r => q i2 (by simp) o r⟩
  item := by
    intro X hP hw hK hc i pins s σ H E I hf st hg
    subst hP hw hK
    obtain ⟨hz, hTI, ⟨x0, y0, hTO⟩, h1, h2⟩ := st
    obtain ⟨xs, ys, x, y, hqx, hqy, hx, hy⟩ := hg
    obtain ⟨its, rv, p⟩ := seqK I hqx
    obtain ⟨its2, rv2, p2⟩ := seqK I hqy
    obtain ⟨u, hu, ru⟩ := rv.get hx
    obtain ⟨u2, hu2, ru2⟩ := rv2.get hy
    have hzl : z < s.heap.objs.size := Heap.lt_size hz
    have l1 : i < its.toArray.size := by simpa using (List.getElem?_eq_some_iff.mp hu).1
    have l2 : i < its2.toArray.size := by simpa using (List.getElem?_eq_some_iff.mp hu2).1
    refine wpAny_pyNext_zipD2_item (sep_of D) (draws_k (A := X.A.in1) (I.ok.hd hc) k i1 a D.l1i1 its.toArray) (draws_k (A := X.A.in1) (I.ok.hd hc) l i2 b D.l2i2 its2.toArray) hz hTI hTO ⟨h1, p⟩ ⟨h2, p2⟩ l1 l2 fun w1 w2 h' tk e1 e2 z' TO' st1 st2 hT hsz hk => ?_
    have f1 : w1 = u := by
      have q : its[i]? = some w1 := by simpa using e1
      rw [hu] at q; exact (Option.some.inj q).symm
    have f2 : w2 = u2 := by
      have q : its2[i]? = some w2 := by simpa using e2
      rw [hu2] at q; exact (Option.some.inj q).symm
    subst f1 f2
    refine ⟨_, rfl, wpAny_letOwnedTupleGo_zip (s := { s with heap := h', toks := tk }) z' fun h'' z'' sb => ?_⟩
    have hT2 : h''.get? s.heap.objs.size = some { cls := .type "tuple", data := .seq #[w1, w2] } := (sb.2 _ (Nat.ne_of_gt hzl)).trans hT
    have new : ObjOk X.prog X.w (upd H s.heap.objs.size (.tup [x, y])) h'' s.heap.objs.size (.tup [x, y]) :=
      ⟨by show 2 ≤ sizeLine; decide, [w1, w2], .cons ru (.cons ru2 .nil), ⟨_, hT2, rfl, _, rfl⟩⟩
    have I1 : Inv X pins σ (upd H s.heap.objs.size (.tup [x, y])) { s with heap := h'', toks := tk } :=
      I.turnedNew (ch := [z, TI, TO, i1, i2]) (fun c o hb q => (sb.2 c (fun q' => hb (by simp [q']))).trans (hk c o (fun q' => hb (by simp [q'])) (fun q' => hb (by simp [q'])) (fun q' => hb (by simp [q'])) (fun q' => hb (by simp [q'])) q)) hf (Nat.le_refl _) new
    refine ⟨.ref s.heap.objs.size, _, I1, rfl, ⟨_, x, y, rfl, I.hok.fresh (Nat.le_refl _), rfl, fun l hl => by rw [seqK_inj I hl hqx]; exact hx, fun l hl => by rw [seqK_inj I hl hqy]; exact hy⟩, ⟨z'', ?_, ⟨w1, w2, ?_⟩, ?_, ?_⟩, fun c hcm => ?_⟩
    · exact (sb.2 _ D.TIz).trans (hk _ _ D.TIz D.TITO D.TIi1 D.TIi2 hTI)
    · exact (sb.2 _ D.TOz).trans TO'
    · exact st1.1.at fun o q => (sb.2 _ D.i1z).trans q
    · exact st2.1.at fun o q => (sb.2 _ D.i2z).trans q
    · have hlt : c < s.heap.objs.size := by
        have e' : c = z ∨ c = TI ∨ c = TO ∨ c = i1 ∨ c = i2 := by simpa using hcm
        rcases e' with q | q | q | q | q
        · rw [q]; exact hzl
        · rw [q]; exact Heap.lt_size hTI
        · rw [q]; exact Heap.lt_size hTO
        · rw [q]; obtain ⟨_, e1, _⟩ := h1.obj; exact Heap.lt_size e1
        · rw [q]; obtain ⟨_, e2, _⟩ := h2.obj; exact Heap.lt_size e2
      rw [upd_ne (Nat.ne_of_lt hlt)]
      exact (hf c hcm).1
  done := by
    intro X hP hw hK hc i pins s σ H E I hf st hg
    subst hP hw hK
    obtain ⟨hz, hTI, ⟨x0, y0, hTO⟩, h1, h2⟩ := st
    obtain ⟨xs, ys, hqx, hqy, le1, le2, hend⟩ := hg
    obtain ⟨its, rv, p⟩ := seqK I hqx
    obtain ⟨its2, rv2, p2⟩ := seqK I hqy
    have l1 := rv.length
    have l2 := rv2.length
    refine wpAny_pyNext_zipD2_end (sep_of D) (draws_k (A := X.A.in1) (I.ok.hd hc) k i1 a D.l1i1 its.toArray) (draws_k (A := X.A.in1) (I.ok.hd hc) l i2 b D.l2i2 its2.toArray) hz hTI hTO ⟨h1, p⟩ ⟨h2, p2⟩ (by simp; omega) (by simp; omega) (by simp; omega) fun h' tk hk => ⟨rfl, I.turnedL (t' := tk) (ch := [z, TI, TO, i1, i2]) (fun c o hb q =>
      hk c o (fun q' => hb (by simp [q'])) (fun q' => hb (by simp [q'])) (fun q' => hb (by simp [q'])) (fun q' => hb (by simp [q'])) q) hf⟩
  self := fun A i s Q E st h => wpAny_pyIter_zip st.1 h
def iZipG (K : PySem.W.Frag) (ta : TA) : TI := fun σ H R => ta σ H fun vs H1 => ∃ k l a b xs ys, vs = [.ref a, .ref b] ∧ SqK k K H1 a xs ∧ SqK l K H1 b ys ∧ R (ItzK k l K a b) H1
theorem pi_zipG {X : Cx} {e e2 : Expr} {ta : TA} {p pos tpos : Pos} {elts : List Expr} {kk : Nat} (hg : Gl X "zip") (hm : X.mg "zip" = none) (ha : PA X [e, e2] ta)
    (hs : starEach [e, e2] X.env = (false, eval e X.env) :: starEach [e2] X.env := by rfl) (hpl : (backTo pos (starEach [e2] X.env)).any (·.1) = false := by rfl) :
    PI X (.Tuple elts kk tpos) (.Call (.Name "zip" p) [e, e2] [] pos) (iZipG X.K ta) := by
  refine ⟨fun pins s σ H R I h => ?_⟩
  refine Call_ (ld_blt I hg hm PyProof.Rows.boot_zip (PyProof.Rows.callWith_type1 (thn (ha.run pos pins s σ H _ I h) fun us s1 ⟨vs, H1, I1, r1, q1⟩ => ?_) hs hpl))
  obtain ⟨k, l, a, b, xs, ys, ex, hqx, hqy, q⟩ := q1
  subst ex
  cases r1 with
  | cons r rr =>
    cases rr with
    | cons r' rr =>
      cases rr
      cases r
      cases r'
      have fresh5 : ∀ c, c ∈ [s1.heap.objs.size + 4, s1.heap.objs.size + 2, s1.heap.objs.size + 3, s1.heap.objs.size, s1.heap.objs.size + 1] → FpOk X pins H1 c := fun c hcm => by
        have e' : c = s1.heap.objs.size + 4 ∨ c = s1.heap.objs.size + 2 ∨ c = s1.heap.objs.size + 3 ∨ c = s1.heap.objs.size ∨ c = s1.heap.objs.size + 1 := by simpa using hcm
        have hle : s1.heap.objs.size ≤ c := by
          rcases e' with z | z | z | z | z
          · rw [z]; exact Nat.le_add_right _ _
          · rw [z]; exact Nat.le_add_right _ _
          · rw [z]; exact Nat.le_add_right _ _
          · rw [z]; exact Nat.le_refl _
          · rw [z]; exact Nat.le_add_right _ _
        exact I1.fpOk hle (I1.hok.fresh hle)
      obtain ⟨its, rv, p1⟩ := seqK I1 hqx
      obtain ⟨its2, rv2, p2⟩ := seqK I1 hqy
      refine zip_begins2 (begins_k k a its.toArray) (begins_k l b its2.toArray) p1 p2 fun h' hz hTI hTO h1 h2 hsz hk => wpAny_pyIter_zip hz ?_
      have I2 : Inv X pins σ H1 { s1 with heap := h' } := I1.kept (t' := s1.toks) hk
      exact ⟨s1.heap.objs.size + 4, [s1.heap.objs.size + 4, s1.heap.objs.size + 2, s1.heap.objs.size + 3, s1.heap.objs.size, s1.heap.objs.size + 1], _, _, H1, rfl, I2, turn_zipK k l (PySem.W.ktu_apart s1.heap.objs.size a b p1.lt p2.lt), ⟨hz, hTI, ⟨_, _, hTO⟩, ItK.new h1, ItK.new h2⟩, fresh5, q⟩
theorem walk_zipK {K : PySem.W.Frag} {k l : Bool} {a b : Addr} {xs ys : List V} {n : Nat} (hn : n = min xs.length ys.length) : Walk (ItzK k l K a b) n (fun H => SqK k K H a xs ∧ SqK l K H b ys) (YPair (fun i => xs[i]?) (fun i => ys[i]?)) := by
  subst hn
  refine ⟨fun i _ hi q => ?_, fun _ q => ⟨xs, ys, q.1, q.2, by omega, by omega, by omega⟩, fun i H v H' _ q y => ?_⟩
  · have h1 : i < xs.length := by omega
    have h2 : i < ys.length := by omega
    exact ⟨xs, ys, xs[i], ys[i], q.1, q.2, by simp [h1], by simp [h2]⟩
  · obtain ⟨T, x, z, h1, h2, h3, h4, h5⟩ := y
    exact ⟨T, x, z, h1, h2, h3, h4 xs q.1, h5 ys q.2⟩

/-! ### their data -/
def dk (k : Bool) (ds : List PyData) : PyData := match k with | true => .list ds | false => .tuple ds
theorem dt_k {K : PySem.W.Frag} {H : Hp} {v : V} {k : Bool} {ds : List PyData} (h : Dt K H v (dk k ds)) : ∃ a xs, v = .ref a ∧ SqK k K H a xs ∧ DtA K H xs ds := by
  cases k with
  | true => obtain ⟨a, xs, e, h1, h2⟩ := dt_lst h; exact ⟨a, xs, e, SqL.of h1, h2⟩
  | false => exact dt_tup h
theorem SqK.ex {K : PySem.W.Frag} {H H' : Hp} {k : Bool} {a : Addr} {xs : List V} (e : Ex H H') (h : SqK k K H a xs) : SqK k K H' a xs := by
  cases k with
  | true => exact e.sql h
  | false => exact e.sqt h
def enumD (ds : List PyData) : List PyData := ds.mapIdx fun i d => .tuple [.int (i : Nat), d]
def zipD : List PyData → List PyData → List PyData
  | d :: ds, e :: es => .tuple [d, e] :: zipD ds es
  | _, _ => []
theorem zipD_get : ∀ (ds es : List PyData) (i : Nat) (d e : PyData), ds[i]? = some d → es[i]? = some e → (zipD ds es)[i]? = some (.tuple [d, e])
  | [], _, i, d, e, h, _ => by simp at h
  | _ :: _, [], i, d, e, _, h => by simp at h
  | a :: ds, b :: es, 0, d, e, h, g => by simp at h g; subst h g; rfl
  | a :: ds, b :: es, i + 1, d, e, h, g => zipD_get ds es i d e (by simpa using h) (by simpa using g)
theorem zipD_len : ∀ (ds es : List PyData), (zipD ds es).length = min ds.length es.length
  | [], _ => by simp [zipD]
  | _ :: _, [] => by simp [zipD]
  | a :: ds, b :: es => by
    show (zipD ds es).length + 1 = _
    rw [zipD_len ds es, List.length_cons, List.length_cons]; omega
section
variable {K : PySem.W.Frag} {env : List Sl} {te tf : TE} {ds es : List PyData} {k l : Bool}
theorem pair_dt {B B3 H H' : Hp} {T : Addr} {x y : V} {d e : PyData} (hT : H T = none) (hu : H' = upd H T (.tup [x, y])) (hx : Dt K B x d) (hy : Dt K B y e) (e3 : Ex B B3) (hn : ∀ a o, H a = none → H' a = some o → B3 a = some o) : Dt K B3 (.ref T) (.tuple [d, e]) := by
  subst hu
  exact .tup (SqT.of (hn T _ hT upd_same)) (.cons (Dt.ex e3 _ _ hx) (.cons (Dt.ex e3 _ _ hy) .nil))
theorem vi_enum (h : VB K te env (dk k ds)) : VI K (iEnumG K (tCons te tNil)) env (enumD ds) := fun σ B s H1 e R q => h σ B s H1 e _ fun v H2 e2 hv => by
  obtain ⟨a, xs, rfl, h1, h2⟩ := dt_k (hv H2 (Bok.all e e2))
  refine ⟨k, a, xs, rfl, h1, q _ H2 e2 fun B2 b => ?_⟩
  obtain ⟨a', xs', e', g1, g2⟩ := dt_k (hv B2 b)
  cases e'
  have hl : (enumD ds).length = xs'.length := by rw [g2.len]; simp [enumD]
  unfold WkD
  rw [hl]
  refine Walk.mono walk_enumK (fun H e => g1.ex e) fun i H v H' _ e y => ?_
  obtain ⟨T, x, z, rfl, hT, hu, h3, h4⟩ := y
  cases h3
  obtain ⟨d, d1, d2⟩ := g2.get h4
  exact ⟨hu ▸ Ex.new hT, _, by simp [enumD, d1], fun B3 e3 hn => pair_dt hT hu (.int _) d2 e3 hn⟩
theorem vi_zip (h : VB K te env (dk k ds)) (g : VB K tf env (dk l es)) : VI K (iZipG K (tCons te (tCons tf tNil))) env (zipD ds es) := fun σ B s H1 e R q => (vba_cons h (vba_cons g vba_nil)) σ B s H1 e _ fun vs H2 e2 hv => by
  obtain ⟨v, w, rfl, hv1, hw1⟩ := dt_two (hv H2 (Bok.all e e2))
  obtain ⟨a, xs, rfl, h1, h2⟩ := dt_k hv1
  obtain ⟨b, ys, rfl, h3, h4⟩ := dt_k hw1
  refine ⟨k, l, a, b, xs, ys, rfl, h1, h3, q _ H2 e2 fun B2 bk => ?_⟩
  obtain ⟨v', w', ee, hv2, hw2⟩ := dt_two (hv B2 bk)
  cases ee
  obtain ⟨a', xs', e', g1, g2⟩ := dt_k hv2
  cases e'
  obtain ⟨b', ys', e', g3, g4⟩ := dt_k hw2
  cases e'
  unfold WkD
  refine Walk.mono (walk_zipK (by rw [zipD_len, g2.len, g4.len])) (fun H e => ⟨g1.ex e, g3.ex e⟩) fun i H v H' _ e y => ?_
  obtain ⟨T, x, z, rfl, hT, hu, h5, h6⟩ := y
  obtain ⟨d1, p1, p2⟩ := g2.get h5
  obtain ⟨d2, p3, p4⟩ := g4.get h6
  exact ⟨hu ▸ Ex.new hT, _, zipD_get _ _ _ _ _ p1 p3, fun B3 e3 hn => pair_dt hT hu p2 p4 e3 hn⟩
end
end NB
end S_NbZ

section S_NbQ
set_option Elab.async false
set_option linter.all false
set_option maxRecDepth 100000
set_option maxHeartbeats 4000000
namespace NB
open PySem PySem.Spec PyProof.Rows L2 PySem.W PySem.SeqAt
open Evl (Ex)

/-! ### sorting tuples, the empty one among them -/
section
variable {A : Around} {s : Shared}
theorem call_tuple_lt {prog : Program} {w : World} {E : Value → Shared → Prop} {Q : Value → Shared → Prop} {l b : Addr} {items items2 : Array Value} {e r : Nat → Bool} (hl : s.heap.IsTuple l items) (hb : s.heap.IsTuple b items2)
    (he : ∀ j (h1 : j < items.size) (h2 : j < items2.size), EqAt A.in1 s items[j] items2[j] (e j)) (hr : ∀ j (h1 : j < items.size) (h2 : j < items2.size), e j = false → RcLt A.in1 s items[j] items2[j] (r j))
    (h : Q (.bool (firstLt e r (decide (items.size < items2.size)) (List.range (min items.size items2.size)))) s) : wpAny (model prog w) A (call (.builtin "tuple.__lt__") [.ref l, .ref b]) Q E s := by
  obtain ⟨⟨cls, dd, data, sl⟩, ho, hc, n, hd⟩ := id hl
  obtain ⟨⟨cls2, dd2, data2, sl2⟩, ho2, hc2, n2, hd2⟩ := id hb
  simp only at hc hd hc2 hd2
  subst hc hd hc2 hd2
  exact call_meets F.slot_tuple_lt ⟨_, ho, rfl⟩ F.entry_tuple_lt (F.args_tuple_lt_2 _ _) (tuple_ltAt l b items items2 n n2 dd dd2 sl sl2 e r) ⟨ho, ho2, he, hr, h⟩
end
section
variable {prog : Program} {w : World} {A : Around} {E : Value → Shared → Prop} {s : Shared}
theorem oneLt_tup {f : Bool} {xs ys : List PyData} {a b : Value} {as bs : List Addr} {Q : Bool → Shared → Prop} (ra : Reads s.heap a (.tuple xs) as) (rb : Reads s.heap b (.tuple ys) bs) (h : alike (.tuple xs) (.tuple ys) = true)
    (hu : A.units + min (PyData.tuple xs).depth (PyData.tuple ys).depth < cLine) (hq : Q (dataLt (.tuple xs) (.tuple ys)) s) : wpAny (model prog w) A (oneLt' f a b) Q E s := by
  cases f with
  | false => exact oneLt_alike (fun z => nomatch z) ra rb h (fun z => nomatch z) hu hq
  | true =>
    have hal : alikeAll xs ys = true := by simpa [alike] using h
    cases ra with
    | @tuple l o vs n _ as₁ h1 h2 h3 h4 =>
      cases rb with
      | @tuple l' o' vs' n' _ bs₁ k1 k2 k3 k4 =>
        have n1 : vs.size = xs.length := by simpa using ReadsAll.length _ _ _ h4
        have n2 : vs'.size = ys.length := by simpa using ReadsAll.length _ _ _ k4
        rw [dataLt_tuple, ← firstLt_toks xs ys hal, ← n1, ← n2] at hq
        rw [oneLt'_eq]
        simp only [if_true]
        refine wpAny_bind (wpAny_cRoomFor (room_here hu) ?_)
        refine wpAny_bind (wpAny_callSpecialIfBound?_slot (T := "tuple") ⟨_, h1, h2⟩ F.slot_tuple_lt (call_tuple_lt (e := pairEq xs ys) (r := fun j => dataLt (xs.getD j .none) (ys.getD j .none)) ⟨_, h1, h2, _, h3⟩ ⟨_, k1, k2, _, k3⟩ (fun j j1 j2 => ?_) (fun j j1 j2 hj => ?_) ?_))
        · have := eqAt_alikeAll xs ys A.in1 s vs.toList vs'.toList _ _ h4 k4 hal (room_in hu) j (by simpa using j1) (by simpa using j2)
          simpa using this
        · have := rcLt_alikeAll xs ys A.in1 s vs.toList vs'.toList _ _ h4 k4 hal (room_in hu) j (by simpa using j1) (by simpa using j2) hj
          simpa using this
        · exact wpAny_truthy_bool hq
/-- an item at least -/
def ne1 : PyData → Bool
  | .tuple (_ :: _) => true
  | _ => false
theorem firsts_of : ∀ {vs : List Value} {ds : List PyData}, EachIs (fun v d => ∃ as, Reads s.heap v d as) vs ds → (∀ d ∈ ds, ∃ xs, d = .tuple xs) →
    ∃ rs : List (Option Value), rs.map Option.isSome = ds.map ne1 ∧ ∀ {Q : List (Option Value) → Shared → Prop}, Q rs s → wpAny (model prog w) A (vs.mapM firstOfTuple') Q E s
  | _, _, .nil, _ => ⟨[], rfl, fun h => by rw [List.mapM_nil]; exact wpAny_pure h⟩
  | _, _, .cons (a := v) (b := d) ⟨as, r⟩ t, ht => by
    obtain ⟨rs, h1, h2⟩ := firsts_of t fun d hd => ht d (List.mem_cons_of_mem _ hd)
    obtain ⟨xs, rfl⟩ := ht d List.mem_cons_self
    cases r with
    | @tuple a o vs n _ _ ho hc hd hr =>
      have hl := ReadsAll.length _ _ _ hr
      refine ⟨vs[0]? :: rs, ?_, fun {Q} h => ?_⟩
      · rw [List.map_cons, List.map_cons, h1]
        congr 1
        cases xs with
        | nil =>
          have : vs.size = 0 := by simpa using hl
          have e : vs[0]? = none := Array.getElem?_eq_none (by omega)
          rw [e]; rfl
        | cons x xs =>
          have : vs.size = (x :: xs).length := by simpa using hl
          rw [List.length_cons] at this
          have e : vs[0]? = some vs[0] := Array.getElem?_eq_getElem (by omega)
          rw [e]; rfl
      · rw [List.mapM_cons]
        refine wpAny_bind ?_
        rw [kas_first_eq]
        refine wpAny_bind (Looks.here (show Looks (model prog w) s.heap (typeOf (.ref a)) o.cls from (Looks.ld ho).andThen .now) ?_)
        rw [hc, if_neg (by first | decide | simp)]
        refine wpAny_bind (listItems_at ho hd (wpAny_pure ?_))
        exact wpAny_bind (h2 (Q := fun bs s' => wpAny (model prog w) A (pure (vs[0]? :: bs)) Q E s') (wpAny_pure h))
theorem SortsAt.tups {vs : List Value} {ds : List PyData} (e : EachIs (fun v d => ∃ as, Reads s.heap v d as) vs ds) (hal : AllAlike ds) (ht : ∀ d ∈ ds, ∃ xs, d = .tuple xs) (hu : ∀ d, d ∈ ds → A.units + d.depth < cLine) : SortsAt prog w A s (dataKind s.heap ds) vs := by
  by_cases hall : ∀ d ∈ ds, ne1 d = true
  · refine SortsAt.data e hal (.inl fun d hd => ?_) hu
    have h1 := hall d hd
    obtain ⟨xs, rfl⟩ := ht d hd
    cases xs with
    | nil => cases h1
    | cons x xs => exact ⟨x, xs, rfl⟩
  · have room : ∀ {d d' : PyData}, d ∈ ds → A.units + min d.depth d'.depth < cLine := fun {d d'} hd => Nat.lt_of_le_of_lt (Nat.add_le_add_left (Nat.min_le_left _ _) _) (hu d hd)
    refine ⟨fun v hv => ?_, ?_⟩
    · obtain ⟨d, hd, as, r⟩ := e.left v hv
      exact ⟨_, dataKind_some hal hd r⟩
    · have lt : ∀ kd, (kd = general' ∨ kd = oneType') → H.LtAt prog w A s (dataKind s.heap ds) kd := by
        intro kd hk E x y a b Q ha hb hq
        obtain ⟨d, as, hd, ra, rfl⟩ := dataKind_inv ha
        obtain ⟨d', as', hd', rb, rfl⟩ := dataKind_inv hb
        obtain ⟨xs, rfl⟩ := ht d hd
        obtain ⟨ys, rfl⟩ := ht d' hd'
        rcases hk with rfl | rfl
        · show wpAny _ A (oneLt' false x y) Q E s
          exact oneLt_tup ra rb (hal _ hd _ hd') (room hd) hq
        · show wpAny _ A (oneLt' true x y) Q E s
          exact oneLt_tup ra rb (hal _ hd _ hd') (room hd) hq
      have some_not : ∃ d ∈ ds, ne1 d = false := by
        refine Classical.byContradiction fun hn => hall fun d hd => ?_
        cases q : ne1 d with
        | true => rfl
        | false => exact absurd ⟨d, hd, q⟩ hn
      cases e with
      | nil => obtain ⟨d, hd, _⟩ := some_not; cases hd
      | @cons v d₀ vs' ds' r t =>
        have e' : EachIs (fun v d => ∃ as, Reads s.heap v d as) (v :: vs') (d₀ :: ds') := .cons r t
        refine ⟨if ne1 d₀ then general' else oneType', lt _ (by split <;> simp), fun h2 E Q hq => ?_⟩
        obtain ⟨rs, g1, g2⟩ := firsts_of (prog := prog) (w := w) (A := A) (E := E) e' ht
        rw [keyKind'_eq, List.mapM_toArray, map_eq_pure_bind]
        refine wpAny_bind (wpAny_bind (g2 (wpAny_pure ?_)))
        have na : (rs.toArray.all fun x => x.isSome) = false := by
          rw [List.all_toArray]
          obtain ⟨d, hd, hn⟩ := some_not
          have : (rs.map Option.isSome).all id = false := by
            rw [g1, List.all_map, List.all_eq_false]
            exact ⟨d, hd, by show ¬ (ne1 d = true); rw [hn]; exact Bool.false_ne_true⟩
          rw [List.all_map] at this
          exact this
        rw [if_neg (by rw [na]; exact Bool.false_ne_true)]
        have hr0 : ((rs.toArray[0]?).bind id).isSome = ne1 d₀ := by
          cases rs with
          | nil => simp at g1
          | cons r0 rr =>
            have q : Option.isSome r0 = ne1 d₀ := by simpa using (List.cons.inj g1).1
            rw [← q]; cases r0 <;> simp
        rw [hr0]
        cases q : ne1 d₀ with
        | true => rw [if_pos rfl]; rw [q] at hq; exact wpAny_pure hq
        | false =>
          rw [if_neg Bool.false_ne_true]
          rw [q] at hq
          have tT : ∀ z ∈ (v :: vs'), Looks (model prog w) s.heap (typeOf z) (.type "tuple") := fun z hz => by
            obtain ⟨d, hd, as, r⟩ := e'.left z hz
            obtain ⟨xs, rfl⟩ := ht d hd
            exact looks_reads r
          rw [oneTypeOnly'_eq, List.mapM_toArray, map_eq_pure_bind]
          refine wpAny_bind (wpAny_bind (wpAny_bind (kas_mapM (r := Value.type "tuple") _ (fun z hz Q' hq => (tT z hz).here hq) (wpAny_pure ?_))))
          have hall2 : ((List.map (fun _ => Value.type "tuple") (v :: vs')).toArray.all fun x => x == Value.type "tuple") = true := by
            simp only [List.all_toArray, List.all_map, List.all_eq_true]
            intro _ _
            exact beq_self_eq_true _
          have h0 : (List.map (fun _ => Value.type "tuple") (v :: vs')).toArray[0]? = some (Value.type "tuple") := by simp
          rw [h0]
          simp only [hall2, if_true]
          exact wpAny_pure (wpAny_pure hq)
end

/-! ### sorted(xs), sorted(d) -/
/-- the order of data -/
abbrev sortD (ds : List PyData) : List PyData := ds.mergeSort (dataLe false id)
structure SOk (ds : List PyData) : Prop where
  al : AllAlike ds
  tup : ∀ d ∈ ds, ∃ xs, d = .tuple xs
  dep : ∀ d ∈ ds, d.depth ≤ 16
  len : ds.length ≤ 100000
theorem SOk.sub {ds es : List PyData} (h : SOk ds) (hs : ∀ d ∈ es, d ∈ ds) (hl : es.length ≤ 100000) : SOk es := ⟨fun d hd d' hd' => h.al d (hs d hd) d' (hs d' hd'), fun d hd => h.tup d (hs d hd), fun d hd => h.dep d (hs d hd), hl⟩
section
variable {X : Cx} {pins : List (Addr × Obj)} {σ : L2.St} {H : Hp} {s : Shared}
theorem each_dt (I : Inv X pins σ H s) : ∀ {ds : List PyData} {vs : List V} {us : List Value}, DtA X.K H vs ds → Vals vs us → EachIs (fun u d => ∃ v, RelV v u ∧ Dt X.K H v d) us ds
  | [], _, _, h, r => by cases h; cases r; exact .nil
  | d :: ds, _, _, h, r => by
    cases h with
    | cons h1 h2 =>
      cases r with
      | cons r1 r2 => exact .cons ⟨_, r1, h1⟩ (each_dt I h2 r2)
theorem of_each : ∀ {ds : List PyData} {us : List Value}, EachIs (fun u d => ∃ v, RelV v u ∧ Dt X.K H v d) us ds → ∃ vs, Vals vs us ∧ DtA X.K H vs ds
  | _, _, .nil => ⟨[], .nil, .nil⟩
  | _, _, .cons ⟨v, r, h⟩ t => by
    obtain ⟨vs, r2, h2⟩ := of_each t
    exact ⟨v :: vs, .cons r r2, .cons h h2⟩
theorem each_reads (I : Inv X pins σ H s) {ds : List PyData} {us : List Value} (e : EachIs (fun u d => ∃ v, RelV v u ∧ Dt X.K H v d) us ds) : EachIs (fun u d => ∃ as, Reads s.heap u d as) us ds :=
  e.mono fun u d ⟨v, r, h⟩ => Dp.reads I d v u (Dt.dp d v h) r
theorem units_ok {A : Around} {d : PyData} (hu : A.units + 64 < cLine) (h : d.depth ≤ 16) (n : Nat) (hn : n ≤ 2) : A.units + n + d.depth < cLine := by omega
def rSortL (K : PySem.W.Frag) : List V → Hp → VK → Prop := fun xs H Q => ∃ a vs ds, xs = [.ref a] ∧ SqL K H a vs ∧ DtA K H vs ds ∧ SOk ds ∧ ∀ p ys, H p = none → DtA K H ys (sortD ds) → Q (.ref p) (upd H p (.lst ys))
theorem cr_sortL (hu : X.A.units + 64 < cLine) : CallR X (.builtin "sorted") (rSortL X.K) := by
  intro pins s σ H xs us Q I r q
  obtain ⟨a, vs, ds, rfl, hq, hd, ok, q⟩ := q
  obtain ⟨u, rfl, rx⟩ := vals1 r
  cases rx
  obtain ⟨its, rv, p, hz⟩ := I.list hq
  have e := each_dt I hd rv
  have er' : EachIs (fun v d => ∃ as, Reads (sortingHeap (copyHeap s.heap its) (s.heap.objs.size + 1) its) v d as) its ds := (each_reads I e).mono fun _ _ ⟨as, r⟩ => ⟨as, PyProof.Rows.Reads.keeps (fun _ _ => sorting_copy_old) r⟩
  have hlen : its.length = ds.length := by rw [← rv.length, hd.len]
  have hl16 : its.length ≤ sizeLine := by rw [hlen]; exact Nat.le_trans ok.len (by decide)
  refine sorted_vals p.isList (SortsAt.tups (s := { s with heap := sortingHeap (copyHeap s.heap its) (s.heap.objs.size + 1) its }) er' ok.al ok.tup fun d hd => units_ok hu (ok.dep d hd) 2 (by decide)) hl16 ?_
  have eo : EachIs (fun u d => ∃ v, RelV v u ∧ Dt X.K H v d) (sortVals (dataKind (sortingHeap (copyHeap s.heap its) (s.heap.objs.size + 1) its) ds) false its its) (sortD ds) := by
    have := sortVals_data (enc := id) (bs := ds) false e (er'.mono fun _ _ h => h) (by rw [List.map_id]; exact ok.al)
    rw [List.map_id] at this
    exact this
  obtain ⟨ys, g1, g2⟩ := of_each eo
  obtain ⟨ep, he'⟩ := PyProof.Rows.sortedAll_at s.heap its (sortVals (dataKind (sortingHeap (copyHeap s.heap its) (s.heap.objs.size + 1) its) ds) false its its).toArray
  have yl : ys.length ≤ sizeLine := by rw [g2.len, List.length_mergeSort]; exact Nat.le_trans ok.len (by decide)
  exact ⟨.ref _, upd H (s.heap.objs.size + 1) (.lst ys), I.laid (t' := s.toks) (fun _ _ => PyProof.Rows.sortedAll_old) (Nat.le_succ _) ⟨yl, _, ep, g1, he'⟩, rfl, q _ ys (I.hok.fresh (Nat.le_succ _)) g2⟩
def rSortC (P : Program) (w : World) (K : PySem.W.Frag) {κ : Type} (enc : κ → PyData) : List V → Hp → VK → Prop := fun xs H Q => ∃ (a : Addr) (kvs : List (κ × V)), xs = [.ref a] ∧ DcAt P w K enc H a kvs ∧ SOk (kvs.map fun q => enc q.1) ∧ ∀ p ys, H p = none → DtA K H ys (sortD (kvs.map fun q => enc q.1)) → Q (.ref p) (upd H p (.lst ys))
theorem cr_sortC {κ : Type} [DecidableEq κ] {enc : κ → PyData} (E : KeyE enc) (hc : X.calm = true) (hu : X.A.units + 64 < cLine) : CallR X (.builtin "sorted") (rSortC X.prog X.w X.K enc) := by
  intro pins s σ H xs us Q I r q
  obtain ⟨a, kvs, rfl, ⟨xs, h1, h2⟩, ok, q⟩ := q
  obtain ⟨u, rfl, rx⟩ := vals1 r
  cases rx
  obtain ⟨hm, z1, z2⟩ := dc_full E I h1 h2
  obtain ⟨o, es, ep, g1, g2, g3, g4, g5, g6⟩ := id hm
  obtain ⟨ys, ey, dy⟩ := keys_vals I h2
  refine Calls.call_function_entry PyProof.Rows.kind_sorted PyProof.Rows.plain_sorted PyProof.Rows.entry_sorted (PyProof.Rows.args_sorted1 _) ?_
  unfold Builtin.«sorted»
  refine wpAny_bind (m := checkCount "sorted" 1 1 _) (wpAny_pure ?_)
  refine wpAny_bind (PySem.W.kdu_collect (A := X.A.in1) (PySem.KdlSrc.rawDict (es := es) (ep := ep) z2) (I.ok.hd hc) ⟨o, g1, g2, g3⟩ (by rw [size_of_entries g4]; exact z1) fun h' tk acc hk hacc => ?_)
  have ea := acc_eq g4 hacc
  have ev : ys = (xs.map fun x => x.2.1).map V.ref := by rw [ey, List.map_map]; rfl
  have rv : Vals ys acc.toList := by rw [ea, ev]; exact refs_vals _
  have I1 : Inv X pins σ H { s with heap := h', toks := tk } := I.kept hk
  have e := each_dt I1 dy rv
  have hal : acc.toList.length = (kvs.map fun q => enc q.1).length := by rw [← rv.length, dy.len]
  have hl16 : acc.toList.length ≤ sizeLine := by rw [hal]; exact Nat.le_trans ok.len (by decide)
  refine wpAny_bind (wpAny_newList ?_ hl16)
  have hoL : (h'.push (seqObj "list" acc.toList.toArray 0)).get? h'.objs.size = some (seqObj "list" acc.toList.toArray 0) := Heap.get?_push_size _ rfl
  show wpAny _ _ _ _ _ { s with heap := h'.push (seqObj "list" acc.toList.toArray 0), toks := tk }
  have old : ∀ b u, h'.get? b = some u → (sortingHeap (h'.push (seqObj "list" acc.toList.toArray 0)) h'.objs.size acc.toList).get? b = some u := fun b u hb =>
    sortingHeap_old (Nat.ne_of_lt (Heap.lt_size hb)) (Heap.get?_push_of_some _ hb)
  have er' : EachIs (fun v d => ∃ as, Reads (sortingHeap (h'.push (seqObj "list" acc.toList.toArray 0)) h'.objs.size acc.toList) v d as) acc.toList (kvs.map fun q => enc q.1) :=
    (each_reads I1 e).mono fun _ _ ⟨as, r⟩ => ⟨as, PyProof.Rows.Reads.keeps (fun b u => old b u) r⟩
  refine wpAny_bind (wpAny_holding (wpAny_call_entry PyProof.Rows.slot_list_sort ⟨_, hoL, rfl⟩ PyProof.Rows.entry_list_sort
    (list_sort_vals (s := { s with heap := h'.push (seqObj "list" acc.toList.toArray 0), toks := tk }) hoL (SortsAt.tups (s := { s with heap := sortingHeap (h'.push (seqObj "list" acc.toList.toArray 0)) h'.objs.size acc.toList, toks := tk }) er' ok.al ok.tup fun d hd => units_ok hu (ok.dep d hd) 2 (by decide)) hl16 ⟨_, rfl, ?_⟩)
    (PyProof.Rows.args_list_sort _)))
  have eo : EachIs (fun u d => ∃ v, RelV v u ∧ Dt X.K H v d) (sortVals (dataKind (sortingHeap (h'.push (seqObj "list" acc.toList.toArray 0)) h'.objs.size acc.toList) (kvs.map fun q => enc q.1)) false acc.toList acc.toList) (sortD (kvs.map fun q => enc q.1)) := by
    have := sortVals_data (enc := id) (bs := kvs.map fun q => enc q.1) false e (er'.mono fun _ _ h => h) (by rw [List.map_id]; exact ok.al)
    rw [List.map_id] at this
    exact this
  obtain ⟨zs, k1, k2⟩ := of_each eo
  obtain ⟨e', he'⟩ := PyProof.Rows.sortedHeap_at (vs := acc.toList) (out := (sortVals (dataKind (sortingHeap (h'.push (seqObj "list" acc.toList.toArray 0)) h'.objs.size acc.toList) (kvs.map fun q => enc q.1)) false acc.toList acc.toList).toArray) hoL
  have yl : zs.length ≤ sizeLine := by rw [k2.len, List.length_mergeSort]; exact Nat.le_trans ok.len (by decide)
  refine wpAny_pure ⟨_, rfl, .ref h'.objs.size, upd H h'.objs.size (.lst zs), I1.laid (t' := tk) (fun b u e => ?_) (Nat.le_refl _)
    (show ObjOk X.prog X.w _ _ _ (.lst zs) from ⟨yl, _, e', k1, he'⟩), rfl, q _ zs (I1.hok.fresh (Nat.le_refl _)) k2⟩
  have hb : b < h'.objs.size := Heap.lt_size e
  rw [PyProof.Rows.sortedHeap_old (Nat.ne_of_lt hb) (by rw [size_push']; exact Nat.lt_succ_of_lt hb)]
  exact Heap.get?_push_of_some _ e
def rSortT (K : PySem.W.Frag) : List V → Hp → VK → Prop := fun xs H Q => ∃ a vs ds, xs = [.ref a] ∧ SqT K H a vs ∧ DtA K H vs ds ∧ SOk ds ∧ ∀ p ys, H p = none → DtA K H ys (sortD ds) → Q (.ref p) (upd H p (.lst ys))
theorem cr_sortT (hu : X.A.units + 64 < cLine) : CallR X (.builtin "sorted") (rSortT X.K) := by
  intro pins s σ H xs us Q I r q
  obtain ⟨a, ys, ds, rfl, hq, dy, ok, q⟩ := q
  obtain ⟨u, rfl, rx⟩ := vals1 r
  cases rx
  obtain ⟨its, rv0, p, hz⟩ := I.tuple hq
  obtain ⟨o, g1, g2, n, g3⟩ := id p
  refine Calls.call_function_entry PyProof.Rows.kind_sorted PyProof.Rows.plain_sorted PyProof.Rows.entry_sorted (PyProof.Rows.args_sorted1 _) ?_
  unfold Builtin.«sorted»
  refine wpAny_bind (m := checkCount "sorted" 1 1 _) (wpAny_pure ?_)
  refine wpAny_bind (wpAny_collect_seq a (.inr rfl) g1 g2 g3 (fun h' hk => ?_) (by rw [List.size_toArray, ← rv0.length, dy.len]; exact Nat.le_trans ok.len (by decide)))
  rw [List.toList_toArray]
  have rv : Vals ys its := rv0
  have I1 : Inv X pins σ H { s with heap := h' } := I.kept (t' := s.toks) hk
  have e := each_dt I1 dy rv
  have hal : its.length = ds.length := by rw [← rv.length, dy.len]
  have hl16 : its.length ≤ sizeLine := by rw [hal]; exact Nat.le_trans ok.len (by decide)
  refine wpAny_bind (wpAny_newList ?_ hl16)
  have hoL : (h'.push (seqObj "list" its.toArray 0)).get? h'.objs.size = some (seqObj "list" its.toArray 0) := Heap.get?_push_size _ rfl
  show wpAny _ _ _ _ _ { s with heap := h'.push (seqObj "list" its.toArray 0) }
  have old : ∀ b u, h'.get? b = some u → (sortingHeap (h'.push (seqObj "list" its.toArray 0)) h'.objs.size its).get? b = some u := fun b u hb =>
    sortingHeap_old (Nat.ne_of_lt (Heap.lt_size hb)) (Heap.get?_push_of_some _ hb)
  have er' : EachIs (fun v d => ∃ as, Reads (sortingHeap (h'.push (seqObj "list" its.toArray 0)) h'.objs.size its) v d as) its ds :=
    (each_reads I1 e).mono fun _ _ ⟨as, r⟩ => ⟨as, PyProof.Rows.Reads.keeps (fun b u => old b u) r⟩
  refine wpAny_bind (wpAny_holding (wpAny_call_entry PyProof.Rows.slot_list_sort ⟨_, hoL, rfl⟩ PyProof.Rows.entry_list_sort
    (list_sort_vals (s := { s with heap := h'.push (seqObj "list" its.toArray 0) }) hoL (SortsAt.tups (s := { s with heap := sortingHeap (h'.push (seqObj "list" its.toArray 0)) h'.objs.size its }) er' ok.al ok.tup fun d hd => units_ok hu (ok.dep d hd) 2 (by decide)) hl16 ⟨_, rfl, ?_⟩)
    (PyProof.Rows.args_list_sort _)))
  have eo : EachIs (fun u d => ∃ v, RelV v u ∧ Dt X.K H v d) (sortVals (dataKind (sortingHeap (h'.push (seqObj "list" its.toArray 0)) h'.objs.size its) ds) false its its) (sortD ds) := by
    have := sortVals_data (enc := id) (bs := ds) false e (er'.mono fun _ _ h => h) (by rw [List.map_id]; exact ok.al)
    rw [List.map_id] at this
    exact this
  obtain ⟨zs, k1, k2⟩ := of_each eo
  obtain ⟨e', he'⟩ := PyProof.Rows.sortedHeap_at (vs := its) (out := (sortVals (dataKind (sortingHeap (h'.push (seqObj "list" its.toArray 0)) h'.objs.size its) ds) false its its).toArray) hoL
  have yl : zs.length ≤ sizeLine := by rw [k2.len, List.length_mergeSort]; exact Nat.le_trans ok.len (by decide)
  refine wpAny_pure ⟨_, rfl, .ref h'.objs.size, upd H h'.objs.size (.lst zs), I1.laid (t' := s.toks) (fun b u e => ?_) (Nat.le_refl _)
    (show ObjOk X.prog X.w _ _ _ (.lst zs) from ⟨yl, _, e', k1, he'⟩), rfl, q _ zs (I1.hok.fresh (Nat.le_refl _)) k2⟩
  have hb : b < h'.objs.size := Heap.lt_size e
  rw [PyProof.Rows.sortedHeap_old (Nat.ne_of_lt hb) (by rw [size_push']; exact Nat.lt_succ_of_lt hb)]
  exact Heap.get?_push_of_some _ e
def rSortG (K : PySem.W.Frag) : List V → Hp → VK → Prop := fun xs H Q => rSortL K xs H Q ∨ rSortT K xs H Q
theorem cr_sortG (hu : X.A.units + 64 < cLine) : CallR X (.builtin "sorted") (rSortG X.K) := (cr_sortL hu).or (cr_sortT hu)
end
section
variable {K : PySem.W.Frag} {ds : List PyData}
theorem rcn_sortL (ok : SOk ds) : RCN K (rSortG K) [.list ds] (sortD ds) := fun H xs h Q q => by
  obtain ⟨v, rfl, h0⟩ := dt_one h
  obtain ⟨p, ys, rfl, hp, hy⟩ := dt_lst h0
  exact .inl ⟨p, ys, ds, rfl, SqL.of hp, hy, ok, fun p' zs hp' hz => q p' zs _ hp' (Ex.new hp') upd_same (DtA.ex (Ex.new hp') _ _ hz)⟩
theorem rcn_sortT (ok : SOk ds) : RCN K (rSortG K) [.tuple ds] (sortD ds) := fun H xs h Q q => by
  obtain ⟨v, rfl, h0⟩ := dt_one h
  obtain ⟨p, ys, rfl, hp, hy⟩ := dt_tup h0
  exact .inr ⟨p, ys, ds, rfl, hp, hy, ok, fun p' zs hp' hz => q p' zs _ hp' (Ex.new hp') upd_same (DtA.ex (Ex.new hp') _ _ hz)⟩
/-- sorted(d), list(d) of a dict that is only read -/
theorem vn_sortC {P : Program} {w : World} {κ ν : Type} {enc : κ → PyData} {E : KeyE enc} {encv : ν → PyData} {l : List (κ × ν)} {env : List Sl} {i : Nat} (hi : env[i]? = some (.dc P w K enc E encv l)) (ok : SOk (l.map fun q => enc q.1)) :
    VN K (tCB (rSortC P w K enc) (tCons (tVar i) tNil)) env (sortD (l.map fun q => enc q.1)) := fun σ B s H1 e Q q => by
  obtain ⟨v, h1, b, rfl, hd⟩ := s.getO hi
  obtain ⟨kvs, d1, d2⟩ := hd.ex E e
  have ek : (kvs.map fun q => enc q.1) = l.map fun q => enc q.1 := by
    have := congrArg (List.map enc) d2.keys
    rw [List.map_map, List.map_map] at this
    exact this
  refine ⟨_, h1, b, kvs, rfl, d1, by rw [ek]; exact ok, fun p ys hp hy => ?_⟩
  rw [ek] at hy
  exact q p ys _ hp (Ex.new hp) upd_same (DtA.ex (Ex.new hp) _ _ hy)
theorem vn_listC {P : Program} {w : World} {κ ν : Type} {enc : κ → PyData} {E : KeyE enc} {encv : ν → PyData} {l : List (κ × ν)} {env : List Sl} {i : Nat} (hi : env[i]? = some (.dc P w K enc E encv l)) :
    VN K (tCB (rListC P w K enc) (tCons (tVar i) tNil)) env (l.map fun q => enc q.1) := fun σ B s H1 e Q q => by
  obtain ⟨v, h1, b, rfl, hd⟩ := s.getO hi
  obtain ⟨kvs, d1, d2⟩ := hd.ex E e
  have ek : (kvs.map fun q => enc q.1) = l.map fun q => enc q.1 := by
    have := congrArg (List.map enc) d2.keys
    rw [List.map_map, List.map_map] at this
    exact this
  refine ⟨_, h1, b, kvs, rfl, d1, fun p ys hp hy => ?_⟩
  rw [ek] at hy
  exact q p ys _ hp (Ex.new hp) upd_same (DtA.ex (Ex.new hp) _ _ hy)
end
end NB
end S_NbQ

section S_NbTop
set_option Elab.async false
set_option linter.all false
set_option maxRecDepth 100000
set_option maxHeartbeats 4000000
namespace NB
open PySem PySem.Spec PyProof.Rows L2
def topS (i : Nat) : Stmt := PySem.Challenge.pw_everysource_k61_whole_means_over_and_nou.main.body.getD i (.Pass ⟨0, 0, 0, 0⟩)
def mkD (x : Str) (i : Nat) : He.DefD := ⟨(x, none), x, x, defArgs (topS i), defBody (topS i), defScope (topS i), [], []⟩
def fnsA : List He.DefD := [mkD "tuple_of" 4, mkD "fraction" 6, mkD "plus" 7, mkD "kind_samples" 9, mkD "gathered_wish" 12, mkD "made_wish" 13, mkD "wish_of" 14, mkD "factors_of" 18, mkD "mean_over" 19, mkD "is_nought" 20, mkD "_shared" 21, mkD "fitting_powers" 22, mkD "nought_basis" 23, mkD "_law_box" 25, mkD "_law_take" 26, mkD "_law_cells" 27, mkD "_law_of" 28, mkD "_law_same" 29, mkD "_law_low" 30, mkD "_law_add" 31]
def fnsB : List He.DefD := [mkD "_law_mul" 32, mkD "_law_gathered" 33, mkD "_law_less" 34, mkD "_law_factors" 35, mkD "_law_number" 36, mkD "_law_worth" 37, mkD "_law_drawn" 38, mkD "_law_met" 39, mkD "_law_ratio" 40, mkD "_law_shows" 41, mkD "_law_powers" 42, mkD "_law_shape" 43, mkD "_law_spring" 44, mkD "_law_groups" 45, mkD "_law_splits" 46, mkD "_law_fitting" 47, mkD "_law_basis_right" 48, mkD "_law_over_right" 49, mkD "_law_by_hand_right" 50, mkD "_law_right" 51, mkD "law" 52]
def fns : List He.DefD := fnsA ++ fnsB
def freeA : List Str := ["isinstance", "tuple", "list", "bool", "str", "int", "abs", "len", "range", "sorted", "enumerate", "zip", "any", "all", "sum", "dict", "set"]

/-- what the head tells of the globals -/
structure Wd (K : PySem.W.Frag) (mg : Str → Option Value) : Prop where
  fn : ∀ (j : Nat) (d : He.DefD), fns[j]? = some d → mg d.name = some (.ref (He.fAd K d.at_)) ∧ ∃ fd, FunD K d.name d.qual d.params d.body d.scope (d.dvs K) (d.kws K) (He.fAd K d.at_) fd
  fr : ∀ x ∈ freeA, mg x = none
  zero : ∃ a, mg "ZERO" = some (.ref a) ∧ ∀ H, SqT K H a [.int 0, .int 1]
  one : ∃ a, mg "ONE" = some (.ref a) ∧ ∀ H, SqT K H a [.int 1, .int 1]
  minus : ∃ a, mg "MINUS" = some (.ref a) ∧ ∀ H, SqT K H a [.int (-1), .int 1]
  gcd : mg "gcd" = some (.builtin "math.gcd")
theorem Wd.free {K : PySem.W.Frag} {mg : Str → Option Value} (W : Wd K mg) (x : Str) (h : x ∈ freeA := by decide +kernel) : mg x = none := W.fr x h
/-- a def that may be called -/
def Cb (P : Program) (w : World) (K : PySem.W.Frag) (mg : Str → Option Value) (base : Heap) (x : Str) (k : Nat) (ps : List Str) (sp : Sp) : Prop :=
  ∃ f fd, FnOk P w K mg base CX0 k f fd ps sp ∧ mg x = some (.ref f) ∧ PySem.W.keepIn K (.ref f) = true ∧ Binds K fd ps []
section
variable {X : Cx} {x : Str} {k : Nat} {ps : List Str} {sp : Sp} {e : Expr} {es : List Expr} {t : TA} {p pos : Pos} {E : XK}
theorem pe_cb (C : Cb X.prog X.w X.K X.mg X.base x k ps sp) (hr : Room k X.A) (hg : Gl X x) (ha : PA X (e :: es) t)
    (hdb : (x == ("__debug__" : Str)) = false := by decide) (he : starEach (e :: es) X.env = (false, eval e X.env) :: starEach es X.env := by rfl) (hpl : (backTo pos (starEach es X.env)).any (·.1) = false := by rfl) :
    PE X (.Call (.Name x p) (e :: es) [] pos) (tCall sp [] E0 t) := by
  obtain ⟨f, fd, F, hm, hk, hb⟩ := C
  exact pe_call F hr hg hm hk hb .nil pass0 ha hdb he hpl
theorem pe_cb0 (C : Cb X.prog X.w X.K X.mg X.base x k ps sp) (hr : Room k X.A) (hg : Gl X x) (hdb : (x == ("__debug__" : Str)) = false := by decide) : PE X (.Call (.Name x p) [] [] pos) (tCall sp [] E0 tNil) := by
  obtain ⟨f, fd, F, hm, hk, hb⟩ := C
  exact pe_call0 F hr hg hm hk hb .nil pass0 hdb
theorem Cb.mono {P : Program} {w : World} {K : PySem.W.Frag} {mg : Str → Option Value} {base : Heap} (C : Cb P w K mg base x k ps sp) : Cb P w K mg base x k ps sp := C
end
theorem mk_cb {P : Program} {w : World} {K : PySem.W.Frag} {mg : Str → Option Value} {base : Heap} (W : Wd K mg) (j : Nat) {x : Str} {i k : Nat} {N ps : List Str} {sp : Sp} (hj : fns[j]? = some (mkD x i)) (S : FnScope N ps (defScope (topS i)))
    (hb : ∀ (kV doc pm : Value) (an : Option Addr) (cdv ct : Value) (us : List Value), us.length = ps.length → bindArgs (PySem.W.fnOf x x (defArgs (topS i)) (defBody (topS i)) (defScope (topS i)) .none kV doc pm an cdv ct) ⟨us, []⟩ = pure (ps.zip us)) (len : ∀ vs H Q E, sp vs H Q E → vs.length = ps.length)
    (hbody : ∀ (f : Addr) (cdv : Value) (A : Around) (outer : List Env) (s : Shared) (H : Hp) (vs : List V) (Q : VK) (E : XK), Room k (A.deeper (envOfC x (defScope (topS i)) s.heap.objs.size f cdv)) → sp vs H Q E →
      ∃ t, PSs (cxOf CX0 P w K mg base N x (defScope (topS i)) f cdv A outer s H E) (defBody (topS i)) t ∧ t { nx := fun _ H' => Q .non H', rt := Q } (L2.start N vs) H) : Cb P w K mg base x (k + 1) ps sp := by
  obtain ⟨hm, fd, F⟩ := W.fn j _ hj
  have F' : FunD K x x (defArgs (topS i)) (defBody (topS i)) (defScope (topS i)) [] [] (He.fAd K (x, none)) fd := F
  refine ⟨_, fd, F'.ok S len fun cdv A outer s H vs Q E hr h => hbody _ cdv A outer s H vs Q E hr h, hm, F'.kp, F'.bindsN hb⟩

/-! ### the shapes of the data -/
def encQ (q : Rat) : PyData := .tuple [.int q.num, .int (q.den : Nat)]
def encM (m : List Nat) : PyData := .tuple (m.map fun n => .int (n : Nat))
def encP (p : List (List Nat)) : PyData := .tuple (p.map encM)
abbrev Pw : Type := List (List Nat)
def encF1 (x : Pw × Rat) : PyData := .tuple [encP x.1, encQ x.2]
def encF (f : List (Pw × Rat)) : PyData := .tuple (f.map encF1)
def encR (r : List Rat) : PyData := .tuple (r.map encQ)
def encSp1 (x : List Rat × Rat) : PyData := .tuple [encR x.1, encQ x.2]
def encSp (s : List (List Rat × Rat)) : PyData := .tuple (s.map encSp1)
def encG1 (x : List Nat × Nat) : PyData := .tuple [encM x.1, .int (x.2 : Nat)]
def encG (g : List (List Nat × Nat)) : PyData := .tuple (g.map encG1)
theorem imA_map {α : Type} (f : α → PyData) (h : ∀ x, im (f x) = true) (xs : List α) : imA (xs.map f) = true := by
  rw [imA_all, List.all_map, List.all_eq_true]
  exact fun x _ => h x
theorem im_tupm {α : Type} (f : α → PyData) (h : ∀ x, im (f x) = true) (xs : List α) : im (.tuple (xs.map f)) = true := imA_map f h xs
@[simp] theorem im_encQ (q : Rat) : im (encQ q) = true := rfl
@[simp] theorem im_encM (m : List Nat) : im (encM m) = true := im_tupm _ (fun _ => rfl) m
@[simp] theorem im_encP (m : Pw) : im (encP m) = true := im_tupm _ im_encM m
@[simp] theorem im_encF1 (m : Pw × Rat) : im (encF1 m) = true := by
  show (im (encP m.1) && (im (encQ m.2) && true)) = true
  rw [im_encP, im_encQ]; rfl
@[simp] theorem im_encF (m : List (Pw × Rat)) : im (encF m) = true := im_tupm _ im_encF1 m
@[simp] theorem im_encR (m : List Rat) : im (encR m) = true := im_tupm _ im_encQ m
@[simp] theorem im_encSp1 (m : List Rat × Rat) : im (encSp1 m) = true := by
  show (im (encR m.1) && (im (encQ m.2) && true)) = true
  rw [im_encR, im_encQ]; rfl
@[simp] theorem im_encSp (m : List (List Rat × Rat)) : im (encSp m) = true := im_tupm _ im_encSp1 m
@[simp] theorem im_encG1 (m : List Nat × Nat) : im (encG1 m) = true := by
  show (im (encM m.1) && (true && true)) = true
  rw [im_encM]; rfl
@[simp] theorem im_encG (m : List (List Nat × Nat)) : im (encG m) = true := im_tupm _ im_encG1 m
theorem dt_encQ {K : PySem.W.Frag} {H : Hp} {a : Addr} {q : Rat} {n d : Int} (h : SqT K H a [.int n, .int d]) (hn : q.num = n) (hd : (q.den : Int) = d) : Dt K H (.ref a) (encQ q) := by
  unfold encQ
  rw [hn, hd]
  exact .tup h (.cons (.int _) (.cons (.int _) .nil))
section
variable {X : Cx} {pos : Pos} {env : List Sl} {K : PySem.W.Frag}
theorem vd_kZ {a : Addr} (h : ∀ H, SqT K H a [.int 0, .int 1]) : VD K (tC (.ref a)) env (encQ 0) := vd_c fun H => dt_encQ (h H) rfl rfl
theorem vd_kO {a : Addr} (h : ∀ H, SqT K H a [.int 1, .int 1]) : VD K (tC (.ref a)) env (encQ 1) := vd_c fun H => dt_encQ (h H) rfl rfl
theorem vd_kM {a : Addr} (h : ∀ H, SqT K H a [.int (-1), .int 1]) : VD K (tC (.ref a)) env (encQ (-1)) := vd_c fun H => dt_encQ (h H) rfl rfl
end
section
variable {X : Cx} {P : Program} {w : World} {K : PySem.W.Frag} {κ : Type} {enc : κ → PyData}
theorem pe_dcX {pos : Pos} (hP : X.prog = P) (hw : X.w = w) (hK : X.K = K) : PE X (.Dict [] [] pos) (tDcNew P w K enc) := by subst hP hw hK; exact pe_dc
variable [DecidableEq κ]
theorem cr_listCX (hP : X.prog = P) (hw : X.w = w) (hK : X.K = K) (E : KeyE enc) (hc : X.calm = true) : CallR X (.type "list") (rListC P w K enc) := by subst hP hw hK; exact cr_listC E hc
theorem ix_dcX (hP : X.prog = P) (hw : X.w = w) (hK : X.K = K) (E : KeyE enc) (hu : X.A.units + 64 < cLine) : IxR X (rIxC P w K enc) := by subst hP hw hK; exact ix_dc E hu
theorem set_dcX (hP : X.prog = P) (hw : X.w = w) (hK : X.K = K) (E : KeyE enc) (hu : X.A.units + 64 < cLine) : PSet X (rSetC P w K enc) := by subst hP hw hK; exact set_dc E hu
theorem mt_getCX (hP : X.prog = P) (hw : X.w = w) (hK : X.K = K) (E : KeyE enc) (hu : X.A.units + 64 < cLine) : MtR X "dict.get" (rGetC P w K enc) := by subst hP hw hK; exact mt_getC E hu
theorem mt_setdCX (hP : X.prog = P) (hw : X.w = w) (hK : X.K = K) (E : KeyE enc) (hu : X.A.units + 64 < cLine) : MtR X "dict.setdefault" (rSetdC P w K enc) := by subst hP hw hK; exact mt_setdC E hu
theorem cr_sortCX (hP : X.prog = P) (hw : X.w = w) (hK : X.K = K) (E : KeyE enc) (hc : X.calm = true) (hu : X.A.units + 64 < cLine) : CallR X (.builtin "sorted") (rSortC P w K enc) := by subst hP hw hK; exact cr_sortC E hc hu
variable {o e : Expr} {es : List Expr} {to : TE} {t : TA} {name : Str} {apos cpos : Pos} {id : String} {r : V → List V → Hp → VK → Prop}
theorem pe_dmX (hP : X.prog = P) (hw : X.w = w) (hK : X.K = K) (E : KeyE enc) (slot : Slot "dict" name id) (hty : typeOf (.builtin id) = pure (.type "method_descriptor")) (hm : MtR X id r) (ho : PE X o to) (ha : PA X (e :: es) t)
    (hbase : attributeBase o name X.env (eval o X.env) = eval o X.env := by rfl)
    (hfew : ((backTo cpos (starEach (e :: es) X.env)).all (fun x => !x.1) && (backToKw cpos (keywordEach [] X.env)).all (fun x => x.1.isSome)
      && decide ((e :: es).length + ([] : List Keyword).length + (if ([] : List Keyword).isEmpty then 0 else 1) < 30)) = true := by rfl)
    (hline : (apos.endLine == cpos.line) = true := by rfl) (hs : starEach (e :: es) X.env = (false, eval e X.env) :: starEach es X.env := by rfl) (hplain : (backTo cpos (starEach es X.env)).any (·.1) = false := by rfl) :
    PE X (.Call (.Attribute o name apos) (e :: es) [] cpos) (tDM P w K enc r to t) := by subst hP hw hK; exact pe_dm E slot hty hm ho ha hbase hfew hline hs hplain
end
section
variable {X : Cx} {K : PySem.W.Frag}
theorem op_addX (hK : X.K = K) : OpR X (binaryOp .Add) (rAddG K) := by subst hK; exact op_addG
theorem op_mulX (hK : X.K = K) : OpR X (binaryOp .Mult) (rMulG K) := by subst hK; exact op_mulG
theorem op_eqX (hK : X.K = K) (hu : X.A.units + 64 < cLine) : OpR X (compareOp .Eq) (rEqD K) := by subst hK; exact op_eqD hu
theorem op_neX (hK : X.K = K) (hu : X.A.units + 64 < cLine) : OpR X (compareOp .NotEq) (rNeD K) := by subst hK; exact op_neD hu
theorem op_inX (hK : X.K = K) : OpR X (compareOp .In) (rIn K false) := by subst hK; exact op_in_seq
theorem op_notInX (hK : X.K = K) : OpR X (compareOp .NotIn) (rIn K true) := by subst hK; exact op_notIn_seq
theorem ix_seqX (hK : X.K = K) : IxR X (rIx K) := by subst hK; exact ix_seq
theorem sl_listX (hK : X.K = K) : SlR X (rSlL K) := by subst hK; exact sl_list
abbrev rLenG (K : PySem.W.Frag) := Evl.rLenS K
abbrev rListG (K : PySem.W.Frag) := Evl.rListS K
def rTupG (K : PySem.W.Frag) : List V → Hp → VK → Prop := fun xs H Q => ∃ p ys, xs = [.ref p] ∧ ((SqL K H p ys ∧ ∀ l, H l = none → Q (.ref l) (upd H l (.tup ys))) ∨ (SqT K H p ys ∧ Q (.ref p) H))
theorem cr_lenX (hK : X.K = K) : CallR X (.builtin "len") (rLenG K) := by subst hK; exact call_len_seq
theorem cr_listX (hK : X.K = K) : CallR X (.type "list") (rListG K) := by subst hK; exact call_list_of
theorem cr_tupX (hK : X.K = K) : CallR X (.type "tuple") (rTupG K) := by subst hK; exact call_tuple_of
theorem cr_sumX (hK : X.K = K) (hc : X.calm = true) : CallR X (.builtin "sum") (rSumG K) := by subst hK; exact cr_sumG hc
theorem cr_anyX (hK : X.K = K) (hc : X.calm = true) : CallR X (.builtin "any") (rAnyG K) := by subst hK; exact cr_anyG hc
theorem cr_allX (hK : X.K = K) (hc : X.calm = true) : CallR X (.builtin "all") (rAll K) := by subst hK; exact cr_all hc
theorem cr_sortLX (hK : X.K = K) (hu : X.A.units + 64 < cLine) : CallR X (.builtin "sorted") (rSortG K) := by subst hK; exact cr_sortG hu
theorem cr_isiX (hK : X.K = K) : CallR X (.builtin "isinstance") (rIsi K) := by subst hK; exact call_isi
theorem cr_isiTX (hK : X.K = K) : CallR X (.builtin "isinstance") (rIsiT K) := by subst hK; exact call_isiT
theorem pi_listX {tg l : Expr} {tl : TE} (hK : X.K = K) (hl : PE X l tl) : PI X tg l (iList K tl) := by subst hK; exact pi_list hl
theorem pi_tupX {tg l : Expr} {tl : TE} (hK : X.K = K) (hl : PE X l tl) : PI X tg l (iTup K tl) := by subst hK; exact pi_tup hl
theorem pi_seqX {tg l : Expr} {tl : TE} (hK : X.K = K) (hl : PE X l tl) : PI X tg l (iSeq K tl) := by subst hK; exact pi_seq hl
theorem pi_enumX {e : Expr} {ta : TA} {p pos tpos : Pos} {elts : List Expr} {kk : Nat} (hK : X.K = K) (hg : Gl X "enumerate") (hm : X.mg "enumerate" = none) (ha : PA X [e] ta) (hs : starEach [e] X.env = [(false, eval e X.env)] := by rfl) :
    PI X (.Tuple elts kk tpos) (.Call (.Name "enumerate" p) [e] [] pos) (iEnumG K ta) := by subst hK; exact pi_enumG hg hm ha hs
theorem pi_zipX {e e2 : Expr} {ta : TA} {p pos tpos : Pos} {elts : List Expr} {kk : Nat} (hK : X.K = K) (hg : Gl X "zip") (hm : X.mg "zip" = none) (ha : PA X [e, e2] ta)
    (hs : starEach [e, e2] X.env = (false, eval e X.env) :: starEach [e2] X.env := by rfl) (hpl : (backTo pos (starEach [e2] X.env)).any (·.1) = false := by rfl) :
    PI X (.Tuple elts kk tpos) (.Call (.Name "zip" p) [e, e2] [] pos) (iZipG K ta) := by subst hK; exact pi_zipG hg hm ha hs hpl
theorem pg_tupX {pos : Pos} {es : List Expr} {k : Nat} {t : TGs} {n : Nat} (hK : X.K = K) (hc : X.calm = true) (h : PGs X es t)
    (hn : (assignEach es X.env).length = n := by rfl) (hst : (assignEach es X.env).findIdx? (·.1) = none := by rfl) : PG X (.Tuple es k pos) (gTup K n t) := by subst hK; exact pg_tup hc h hn hst
theorem pe_orTX {a b : Expr} {ta tb : TE} {rest : List Expr} {pos : Pos} (hK : X.K = K) (ha : PE X a ta) (hb : PE X (.BoolOp .Or (b :: rest) pos) tb) : PE X (.BoolOp .Or (a :: b :: rest) pos) (tOrT K ta tb) := by subst hK; exact pe_orT ha hb
theorem pa_starX {e : Expr} {es : List Expr} {te : TE} {t : TA} {p : Pos} (hK : X.K = K) (he : PE X e te) (hr : PA X es t) (hs : starEach (.Starred e p :: es) X.env = (true, eval e X.env) :: starEach es X.env := by rfl) : PA X (.Starred e p :: es) (StX.tStar K te t) := by subst hK; exact StX.pa_star he hr hs
theorem pe_bmX {T : String} {name : Str} {id : String} {r : V → List V → Hp → VK → Prop} {o e : Expr} {es : List Expr} {to : TE} {t : TA} {apos cpos : Pos} (hK : X.K = K) (pa : PlainAttrs T) (slot : Slot T name id) (hty : typeOf (.builtin id) = pure (.type "method_descriptor")) (hm : MtR X id r) (ho : PE X o to) (ha : PA X (e :: es) t)
    (hbase : attributeBase o name X.env (eval o X.env) = eval o X.env := by rfl)
    (hfew : ((backTo cpos (starEach (e :: es) X.env)).all (fun x => !x.1) && (backToKw cpos (keywordEach [] X.env)).all (fun x => x.1.isSome)
      && decide ((e :: es).length + ([] : List Keyword).length + (if ([] : List Keyword).isEmpty then 0 else 1) < 30)) = true := by rfl)
    (hline : (apos.endLine == cpos.line) = true := by rfl) (hs : starEach (e :: es) X.env = (false, eval e X.env) :: starEach es X.env := by rfl) (hplain : (backTo cpos (starEach es X.env)).any (·.1) = false := by rfl) :
    PE X (.Call (.Attribute o name apos) (e :: es) [] cpos) (tBM K T r to t) := by subst hK; exact pe_bm pa slot hty hm ho ha hbase hfew hline hs hplain
end
section
variable {K : PySem.W.Frag} {ds : List PyData} {i : Int}
theorem rg_lenT : RCD K (rLenG K) [.tuple ds] (.int (ds.length : Nat)) := rc_lenT
theorem rg_lenL : RCD K (rLenG K) [.list ds] (.int (ds.length : Nat)) := rc_lenL
theorem rg_listT : RCN K (rListG K) [.tuple ds] ds := rcn_listT
theorem rg_listL : RCN K (rListG K) [.list ds] ds := rcn_listL
theorem rg_tupL : RCD K (rTupG K) [.list ds] (.tuple ds) := rc_tupL
theorem rg_tupT : RCD K (rTupG K) [.tuple ds] (.tuple ds) := rc_tupT
end
theorem rs_rt {K : PySem.W.Frag} {a : Addr} {P : PyData → Prop} {F : As} : RsNew K a (.rt P F) (.rt P F) := .le (fun _ _ z => nomatch z) (RsLe.rfl_ _)
theorem rs_rn {K : PySem.W.Frag} {a : Addr} {P : List PyData → Prop} {F : As} : RsNew K a (.rn P F) (.rn P F) := .le (fun _ _ z => nomatch z) (RsLe.rfl_ _)
section
variable {P : Program} {w : World} {K : PySem.W.Frag} {mg : Str → Option Value} {base : Heap} {x : Str} {k j : Nat} {ps : List Str} {sp sp' : Sp}
theorem Cb.up (C : Cb P w K mg base x k ps sp) (h : k ≤ j) : Cb P w K mg base x j ps sp := by
  obtain ⟨f, fd, F, r⟩ := C
  exact ⟨f, fd, F.mono h, r⟩
theorem Cb.imp (C : Cb P w K mg base x k ps sp) (h : ∀ vs H Q E, sp' vs H Q E → sp vs H Q E) : Cb P w K mg base x k ps sp' := by
  obtain ⟨f, fd, F, r⟩ := C
  exact ⟨f, fd, F.imp h, r⟩
/-- a def with an empty promise -/
theorem cb_none (W : Wd K mg) (jj : Nat) {i : Nat} (hj : fns[jj]? = some (mkD x i))
    (hb : ∀ (kV doc pm : Value) (an : Option Addr) (cdv ct : Value) (us : List Value), us.length = ps.length → bindArgs (PySem.W.fnOf x x (defArgs (topS i)) (defBody (topS i)) (defScope (topS i)) .none kV doc pm an cdv ct) ⟨us, []⟩ = pure (ps.zip us))
    (hs : ∀ vs H Q E, ¬ sp vs H Q E) : Cb P w K mg base x 0 ps sp := by
  obtain ⟨hm, fd, F⟩ := W.fn jj _ hj
  have F' : FunD K x x (defArgs (topS i)) (defBody (topS i)) (defScope (topS i)) [] [] (He.fAd K (x, none)) fd := F
  exact ⟨_, fd, ⟨fun vs H Q E h => absurd h (hs vs H Q E), fun A outer s H args us vs Q E hr he hb hv h => absurd h (hs vs H Q E)⟩, hm, F'.kp, F'.bindsN hb⟩
theorem spD_mono {P P' : List PyData → PyData → Prop} (h : ∀ ds d, P' ds d → P ds d) : ∀ vs H Q E, spD K P' vs H Q E → spD K P vs H Q E := fun vs H Q E ⟨ds, d, p, r⟩ => ⟨ds, d, h ds d p, r⟩
theorem spN_mono {P P' : List PyData → List PyData → Prop} (h : ∀ ds d, P' ds d → P ds d) : ∀ vs H Q E, spN K P' vs H Q E → spN K P vs H Q E := fun vs H Q E ⟨ds, d, p, r⟩ => ⟨ds, d, h ds d p, r⟩
end
end NB
end S_NbTop

section S_NbM1
set_option Elab.async false
set_option linter.all false
set_option maxRecDepth 100000
set_option maxHeartbeats 4000000
namespace NB
open PySem PySem.Spec PyProof.Rows L2

/-! ### fractions as rationals -/
def Bd (b : Nat) (q : Rat) : Prop := q.num.natAbs ≤ 2 ^ b ∧ q.den ≤ 2 ^ b
theorem Bd.mono {a b : Nat} {q : Rat} (h : Bd a q) (l : a ≤ b) : Bd b q := ⟨Nat.le_trans h.1 (Nat.pow_le_pow_right (by decide) l), Nat.le_trans h.2 (Nat.pow_le_pow_right (by decide) l)⟩
theorem num_le {t b : Int} (hb : 0 < b) : (Rat.divInt t b).num.natAbs ≤ t.natAbs := by
  rw [Rat.num_divInt, Int.sign_eq_one_of_pos hb, Int.one_mul]
  exact Int.natAbs_ediv_le_natAbs _ _
theorem den_le {t b : Int} (hb : 0 < b) : (Rat.divInt t b).den ≤ b.natAbs := by
  rw [Rat.den_divInt, if_neg (by omega)]
  exact Nat.div_le_self _ _
theorem q_pair {t b : Int} (hb : 0 < b) : encQ (Rat.divInt t b) = .tuple [.int (t / ((Nat.gcd t.natAbs b.natAbs : Nat) : Int)), .int (b / ((Nat.gcd t.natAbs b.natAbs : Nat) : Int))] := by
  unfold encQ
  rw [Rat.num_divInt, Rat.den_divInt, if_neg (by omega), Int.sign_eq_one_of_pos hb, Int.one_mul]
  have e : b.gcd t = Nat.gcd t.natAbs b.natAbs := Nat.gcd_comm _ _
  rw [e]
  have e2 : ((b.natAbs / Nat.gcd t.natAbs b.natAbs : Nat) : Int) = b / ((Nat.gcd t.natAbs b.natAbs : Nat) : Int) := by
    rw [Int.natCast_ediv]
    congr 1
    omega
  rw [e2]
theorem q_add (x y : Rat) : Rat.divInt (x.num * (y.den : Nat) + y.num * (x.den : Nat)) ((x.den : Nat) * (y.den : Nat)) = x + y := by
  have hx : ((x.den : Nat) : Int) ≠ 0 := by have := x.den_nz; omega
  have hy : ((y.den : Nat) : Int) ≠ 0 := by have := y.den_nz; omega
  have := Rat.divInt_add_divInt x.num y.num hx hy
  rw [Rat.num_divInt_den, Rat.num_divInt_den] at this
  exact this.symm
theorem q_mul (x y : Rat) : Rat.divInt (x.num * y.num) ((x.den : Nat) * (y.den : Nat)) = x * y := by
  have := Rat.divInt_mul_divInt x.num y.num (d₁ := (x.den : Nat)) (d₂ := (y.den : Nat))
  rw [Rat.num_divInt_den, Rat.num_divInt_den] at this
  exact this.symm
theorem den_pos (x y : Rat) : (0 : Int) < (x.den : Nat) * (y.den : Nat) := by
  have h1 := x.den_pos
  have h2 := y.den_pos
  exact Int.mul_pos (by omega) (by omega)
theorem natAbs_mul_le {i j : Int} {a b : Nat} (h1 : i.natAbs ≤ 2 ^ a) (h2 : j.natAbs ≤ 2 ^ b) : (i * j).natAbs ≤ 2 ^ (a + b) := by
  rw [Int.natAbs_mul, Nat.pow_add]
  exact Nat.mul_le_mul h1 h2
theorem natAbs_add_le {i j : Int} {a : Nat} (h1 : i.natAbs ≤ 2 ^ a) (h2 : j.natAbs ≤ 2 ^ a) : (i + j).natAbs ≤ 2 ^ (a + 1) := by
  rw [Nat.pow_succ]
  omega
theorem den_abs (x : Rat) : ((x.den : Nat) : Int).natAbs = x.den := by omega
theorem Bd.add {a b : Nat} {x y : Rat} (hx : Bd a x) (hy : Bd b y) : Bd (a + b + 1) (x + y) := by
  rw [← q_add x y]
  have h1 : (x.num * (y.den : Nat)).natAbs ≤ 2 ^ (a + b) := natAbs_mul_le hx.1 (by rw [den_abs]; exact hy.2)
  have h2 : (y.num * (x.den : Nat)).natAbs ≤ 2 ^ (a + b) := by rw [Nat.add_comm]; exact natAbs_mul_le hy.1 (by rw [den_abs]; exact hx.2)
  have h3 : (((x.den : Nat) : Int) * (y.den : Nat)).natAbs ≤ 2 ^ (a + b) := natAbs_mul_le (by rw [den_abs]; exact hx.2) (by rw [den_abs]; exact hy.2)
  exact ⟨Nat.le_trans (num_le (den_pos x y)) (natAbs_add_le h1 h2), Nat.le_trans (den_le (den_pos x y)) (Nat.le_trans h3 (Nat.pow_le_pow_right (by decide) (Nat.le_succ _)))⟩
theorem Bd.mul {a b : Nat} {x y : Rat} (hx : Bd a x) (hy : Bd b y) : Bd (a + b) (x * y) := by
  rw [← q_mul x y]
  exact ⟨Nat.le_trans (num_le (den_pos x y)) (natAbs_mul_le hx.1 hy.1), Nat.le_trans (den_le (den_pos x y)) (natAbs_mul_le (by rw [den_abs]; exact hx.2) (by rw [den_abs]; exact hy.2))⟩
theorem Bd.neg {a : Nat} {x : Rat} (hx : Bd a x) : Bd a (-x) := ⟨by rw [Rat.neg_num, Int.natAbs_neg]; exact hx.1, by rw [Rat.neg_den]; exact hx.2⟩
theorem cmulW {i j : Int} {a b : Nat} (h1 : i.natAbs ≤ 2 ^ a) (h2 : j.natAbs ≤ 2 ^ b) (h : a + b + 2 ≤ 1000000) : CMulW i j :=
  wide_mul (a := a + 1) (b := b + 1) (Nat.lt_of_le_of_lt h1 (Nat.pow_lt_pow_right (by decide) (by omega))) (Nat.lt_of_le_of_lt h2 (Nat.pow_lt_pow_right (by decide) (by omega))) (by omega) (by omega) (by omega)
theorem cdivW {j : Int} {i : Int} {b : Nat} (h0 : 0 < j) (h1 : j.natAbs ≤ 2 ^ b) (h : b < 9000) : CDivW i j := wide_div h0 (Nat.lt_of_le_of_lt h1 (Nat.pow_lt_pow_right (by decide) (Nat.lt_succ_self b))) (Nat.succ_pos _) (by omega)
theorem gcd_pos {t b : Int} (hb : 0 < b) : (0 : Int) < ((Nat.gcd t.natAbs b.natAbs : Nat) : Int) := by
  have : 0 < Nat.gcd t.natAbs b.natAbs := Nat.gcd_pos_of_pos_right _ (by omega)
  omega
theorem gcd_le {t b : Int} {n : Nat} (hb : 0 < b) (h : b.natAbs ≤ 2 ^ n) : (((Nat.gcd t.natAbs b.natAbs : Nat) : Int)).natAbs ≤ 2 ^ n := by
  have : Nat.gcd t.natAbs b.natAbs ≤ b.natAbs := Nat.gcd_le_right _ (by omega)
  omega
/-! promises of the arithmetic -/
def PfracD (ds : List PyData) (d : PyData) : Prop := ∃ t b : Int, 0 < b ∧ b.natAbs ≤ 2 ^ 8500 ∧ ds = [.int t, .int b] ∧ d = encQ (Rat.divInt t b)
def PaddD (ds : List PyData) (d : PyData) : Prop := ∃ x y : Rat, Bd 4000 x ∧ Bd 4000 y ∧ ds = [encQ x, encQ y] ∧ d = encQ (x + y)
def PmulD (ds : List PyData) (d : PyData) : Prop := ∃ x y : Rat, Bd 4000 x ∧ Bd 4000 y ∧ ds = [encQ x, encQ y] ∧ d = encQ (x * y)
theorem bd_den {x y : Rat} (hx : Bd 4000 x) (hy : Bd 4000 y) : (((x.den : Nat) : Int) * (y.den : Nat)).natAbs ≤ 2 ^ 8500 :=
  Nat.le_trans (natAbs_mul_le (by rw [den_abs]; exact hx.2) (by rw [den_abs]; exact hy.2)) (Nat.pow_le_pow_right (by decide) (by decide))
end NB
end S_NbM1

section S_NbD1
set_option Elab.async false
set_option linter.all false
set_option maxRecDepth 100000
set_option maxHeartbeats 4000000
set_option exponentiation.threshold 100000
namespace NB
open PySem PySem.Spec PyProof.Rows L2
local macro_rules | `(tactic| walk_at "vd") => `(tactic| repeat' (first
  | exact vd_var rfl | exact vd_int | exact vd_bl | exact va_nil | exact vba_nil | exact vt_yes
  | with_reducible apply va_cons | with_reducible apply vt_test | with_reducible apply vt_not | with_reducible apply vt_B
  | with_reducible apply vd_tup | with_reducible apply vd_cb | with_reducible apply vd_op | with_reducible apply vd_un
  | exact rd_add | exact rd_ix0 rfl | exact rd_ix1 rfl | exact rd_I0 | exact rd_B0 | exact ru_I
  | exact rg_lenT | exact rg_lenL | exact rc_abs | exact rc_gcd
  | exact Nat.le_of_ble_eq_true rfl))
section
variable {P : Program} {w : World} {K : PySem.W.Frag} {mg : Str → Option Value} {base : Heap}
theorem sc_fraction : FnScope ["top", "bottom", "common"] ["top", "bottom"] (defScope (topS 6)) := ⟨rfl, rfl, rfl, by decide +kernel, rfl, by decide +kernel, by decide +kernel⟩
theorem cb_fraction (W : Wd K mg) : Cb P w K mg base "fraction" 1 ["top", "bottom"] (spD K PfracD) := by
  refine mk_cb W 1 (i := 6) rfl sc_fraction (fun _ _ _ _ _ _ us hl => match us, hl with | [_, _], _ => rfl) (fun vs H Q E h => ?_) fun f cdv A outer s H vs Q E hr h => ⟨_, PSs.nox (
    (pss_cons (ps_if (pt_cmpR (op_eqX (K := K) rfl hr.units) (pv 1) pe_int (nomark _)) (pss_one ps_never) pss_nil)
  (pss_cons (ps_set (i := 2) sc_fraction.nd rfl (by first | exact Or.inl rfl | exact Or.inr rfl) (pe_callBfun cr_gcd (by rfl) W.gcd (pa_cons (pv 0) (pa_cons (pv 1) pa_nil))))
  (pss_cons (ps_if (pt_cmpR op_lt (pv 1) pe_int (nomark _)) (pss_one (ps_set (i := 2) sc_fraction.nd rfl (by first | exact Or.inl rfl | exact Or.inr rfl) (pe_un un_neg (pv 2)))) pss_nil)
  (pss_one (ps_ret (pe_tup (pa_cons (pe_op op_fdivW (pv 0) (pv 2)) (pa_cons (pe_op op_fdivW (pv 1) (pv 2)) pa_nil))))))))), body_D (F := As.emp) (fun ds d p => ?_) h⟩
  · obtain ⟨ds, d, p, hd, _⟩ := h
    rw [hd.len]
    obtain ⟨t, b, h0, hb, rfl, rfl⟩ := p
    rfl
  · obtain ⟨t, b, h0, hb, rfl, rfl⟩ := p
    have e0 : (b == 0) = false := by rw [beq_eq_false_iff_ne]; omega
    have e1 : decide (b < 0) = false := decide_eq_false (by omega)
    rw [q_pair h0]
    refine vs_seq1 (vs_ifF ((vt_test (vd_op (vd_var rfl) vd_int (rd_eqD (a := .int b) (b := .int 0) rfl rfl))).is e0) vs_next) ?_
    refine vs_seq1 (vs_asg0 (vd_cb (va_cons (vd_var rfl) (va_cons (vd_var rfl) va_nil)) rc_gcd) gd_name) ?_
    refine vs_seq1 (vs_ifF ((vt_test (vd_op (vd_var rfl) vd_int rd_B0)).is e1) vs_next) ?_
    refine vs_ret0 ?_
    walk_at "vd"
    all_goals exact rd_fdiv (cdivW (gcd_pos h0) (gcd_le h0 hb) (by decide))

theorem sc_plus : FnScope ["x", "y"] ["x", "y"] (defScope (topS 7)) := ⟨rfl, rfl, rfl, by decide +kernel, rfl, by decide +kernel, by decide +kernel⟩
theorem cb_plus (W : Wd K mg) (c_fraction : Cb P w K mg base "fraction" 1 ["top", "bottom"] (spD K PfracD)) : Cb P w K mg base "plus" 2 ["x", "y"] (spD K PaddD) := by
  refine mk_cb W 2 (i := 7) rfl sc_plus (fun _ _ _ _ _ _ us hl => match us, hl with | [_, _], _ => rfl) (fun vs H Q E h => ?_) fun f cdv A outer s H vs Q E hr h => ⟨_, PSs.nox (
    (pss_one (ps_ret (pe_cb c_fraction (hr.mono (by decide)) rfl (pa_cons (pe_op (op_addX (K := K) rfl) (pe_op (op_mulX (K := K) rfl) (pe_ix (ix_seqX (K := K) rfl) (pv 0) pe_int (fun _ _ => rfl)) (pe_ix (ix_seqX (K := K) rfl) (pv 1) pe_int (fun _ _ => rfl))) (pe_op (op_mulX (K := K) rfl) (pe_ix (ix_seqX (K := K) rfl) (pv 1) pe_int (fun _ _ => rfl)) (pe_ix (ix_seqX (K := K) rfl) (pv 0) pe_int (fun _ _ => rfl)))) (pa_cons (pe_op (op_mulX (K := K) rfl) (pe_ix (ix_seqX (K := K) rfl) (pv 0) pe_int (fun _ _ => rfl)) (pe_ix (ix_seqX (K := K) rfl) (pv 1) pe_int (fun _ _ => rfl))) pa_nil)))))), body_D (F := As.emp) (fun ds d p => ?_) h⟩
  · obtain ⟨ds, d, p, hd, _⟩ := h
    rw [hd.len]
    obtain ⟨x, y, hx, hy, rfl, rfl⟩ := p
    rfl
  · obtain ⟨x, y, hx, hy, rfl, rfl⟩ := p
    refine vs_ret0 ?_
    refine vd_call (P := PfracD) (ds := [.int (x.num * (y.den : Nat) + y.num * (x.den : Nat)), .int ((x.den : Nat) * (y.den : Nat))]) ?_ ⟨_, _, den_pos x y, bd_den hx hy, rfl, by rw [q_add]⟩
    walk_at "vd"
    · exact rd_mulW (cmulW hx.1 (by rw [den_abs]; exact hy.2) (by decide))
    · exact rd_mulW (cmulW hy.1 (by rw [den_abs]; exact hx.2) (by decide))
    · exact rd_mulW (cmulW (by rw [den_abs]; exact hx.2) (by rw [den_abs]; exact hy.2) (by decide))

theorem gcd_step (a b : Nat) (h : 0 < b) : Nat.gcd b (a % b) = Nat.gcd a b := by
  rw [Nat.gcd_comm a b, Nat.gcd_rec b a, Nat.gcd_comm]
theorem vs_euclid {F : As} (h : Int) (l : Int) {tc : TT} {tb : TS} (a b : Nat)
    (hc : ∀ a b : Nat, VT K tc [.d (.int h), .d (.int l), .d (.int (a : Nat)), .d (.int (b : Nat))] (decide (0 < (b : Int))))
    (hb : ∀ a b : Nat, 0 < b → VS K [] F tb [.d (.int h), .d (.int l), .d (.int (a : Nat)), .d (.int (b : Nat))] (.nx (· = [.d (.int h), .d (.int l), .d (.int (b : Nat)), .d (.int ((a % b : Nat) : Nat))]) F)) :
    VS K [] F (tWhile tc tb) [.d (.int h), .d (.int l), .d (.int (a : Nat)), .d (.int (b : Nat))] (.nx (· = [.d (.int h), .d (.int l), .d (.int (Nat.gcd a b : Nat)), .d (.int (0 : Nat))]) F) := by
  refine vs_while (fun m e => ∃ x y : Nat, m = y ∧ Nat.gcd x y = Nat.gcd a b ∧ e = [.d (.int h), .d (.int l), .d (.int (x : Nat)), .d (.int (y : Nat))]) _ b ⟨a, b, rfl, rfl, rfl⟩ fun m e i => ?_
  obtain ⟨x, y, rfl, g, rfl⟩ := i
  by_cases z : m = 0
  · subst z
    rw [Nat.gcd_zero_right] at g
    subst g
    exact .inl ⟨hc _ _, rfl⟩
  · have z' : 0 < m := Nat.pos_of_ne_zero z
    refine .inr ⟨(hc x m).is (decide_eq_true (by omega)), (hb x m z').le (.nx (fun e he => ⟨e, ⟨x % m, Nat.mod_lt _ z', _, _, rfl, ?_, he⟩, Le.refl _⟩) fun _ h => h)⟩
    rw [gcd_step x m z', g]

theorem sc_law_low : FnScope ["_law_high", "_law_low_here", "_law_one", "_law_two"] ["_law_high", "_law_low_here"] (defScope (topS 30)) := ⟨rfl, rfl, rfl, by decide +kernel, rfl, by decide +kernel, by decide +kernel⟩
theorem cb_law_low (W : Wd K mg) : Cb P w K mg base "_law_low" 1 ["_law_high", "_law_low_here"] (spD K PfracD) := by
  refine mk_cb W 18 (i := 30) rfl sc_law_low (fun _ _ _ _ _ _ us hl => match us, hl with | [_, _], _ => rfl) (fun vs H Q E h => ?_) fun f cdv A outer s H vs Q E hr h => ⟨_, PSs.nox (
    (pss_cons (ps_par (i := 2) (j := 3) rfl sc_law_low.nd rfl rfl (by decide) rfl rfl (pa_cons (pe_callB call_abs (by rfl) (W.free "abs") (by decide +kernel) (pa_cons (pv 0) pa_nil)) (pa_cons (pe_callB call_abs (by rfl) (W.free "abs") (by decide +kernel) (pa_cons (pv 1) pa_nil)) pa_nil)) rfl)
  (pss_cons (ps_while PassesOwn.never (pt_cmpR op_gt (pv 3) pe_int (nomark _)) (pss_one (ps_par (i := 2) (j := 3) rfl sc_law_low.nd rfl rfl (by decide) rfl rfl (pa_cons (pv 3) (pa_cons (pe_op op_mod (pv 2) (pv 3)) pa_nil)) rfl)))
  (pss_cons (ps_set (i := 2) sc_law_low.nd rfl (by first | exact Or.inl rfl | exact Or.inr rfl) (pe_ifExp (pt_cmpR op_gt (pv 1) pe_int (nomark _)) (pv 2) (pe_un un_neg (pv 2))))
  (pss_one (ps_ret (pe_tup (pa_cons (pe_op op_fdivW (pv 0) (pv 2)) (pa_cons (pe_op op_fdivW (pv 1) (pv 2)) pa_nil))))))))), body_D (F := As.emp) (fun ds d p => ?_) h⟩
  · obtain ⟨ds, d, p, hd, _⟩ := h
    rw [hd.len]
    obtain ⟨t, b, h0, hb, rfl, rfl⟩ := p
    rfl
  · obtain ⟨t, b, h0, hb, rfl, rfl⟩ := p
    rw [q_pair h0]
    refine vs_seq1 (vs_par (vba_cons (vb_im (vd_cb (va_cons (vd_var rfl) va_nil) rc_abs) rfl) (vba_cons (vb_im (vd_cb (va_cons (vd_var rfl) va_nil) rc_abs) rfl) vba_nil))) ?_
    refine vs_seq1 (vs_euclid t b t.natAbs b.natAbs (fun x y => ?_) fun x y hy => ?_) ?_
    · walk_at "vd"
    · have hy' : (0 : Int) < (y : Nat) := by omega
      exact vs_par (vba_cons (vb_var rfl) (vba_cons (vb_im (vd_op (vd_var rfl) (vd_var rfl) (rd_mod hy')) rfl) vba_nil))
    refine vs_seq1 (vs_asg0 (d := .int ((Nat.gcd t.natAbs b.natAbs : Nat) : Int)) (vd_if (c := true) ?_ (fun _ => vd_var rfl) fun z => nomatch z) gd_name) ?_
    · exact (vt_test (vd_op (vd_var rfl) vd_int rd_B0)).is (decide_eq_true h0)
    refine vs_ret0 ?_
    walk_at "vd"
    all_goals exact rd_fdiv (cdivW (gcd_pos h0) (gcd_le h0 hb) (by decide))

theorem sc_law_add : FnScope ["_law_one", "_law_two"] ["_law_one", "_law_two"] (defScope (topS 31)) := ⟨rfl, rfl, rfl, by decide +kernel, rfl, by decide +kernel, by decide +kernel⟩
theorem cb_law_add (W : Wd K mg) (c__law_low : Cb P w K mg base "_law_low" 1 ["_law_high", "_law_low_here"] (spD K PfracD)) : Cb P w K mg base "_law_add" 2 ["_law_one", "_law_two"] (spD K PaddD) := by
  refine mk_cb W 19 (i := 31) rfl sc_law_add (fun _ _ _ _ _ _ us hl => match us, hl with | [_, _], _ => rfl) (fun vs H Q E h => ?_) fun f cdv A outer s H vs Q E hr h => ⟨_, PSs.nox (
    (pss_one (ps_ret (pe_cb c__law_low (hr.mono (by decide)) rfl (pa_cons (pe_op (op_addX (K := K) rfl) (pe_op (op_mulX (K := K) rfl) (pe_ix (ix_seqX (K := K) rfl) (pv 0) pe_int (fun _ _ => rfl)) (pe_ix (ix_seqX (K := K) rfl) (pv 1) pe_int (fun _ _ => rfl))) (pe_op (op_mulX (K := K) rfl) (pe_ix (ix_seqX (K := K) rfl) (pv 1) pe_int (fun _ _ => rfl)) (pe_ix (ix_seqX (K := K) rfl) (pv 0) pe_int (fun _ _ => rfl)))) (pa_cons (pe_op (op_mulX (K := K) rfl) (pe_ix (ix_seqX (K := K) rfl) (pv 0) pe_int (fun _ _ => rfl)) (pe_ix (ix_seqX (K := K) rfl) (pv 1) pe_int (fun _ _ => rfl))) pa_nil)))))), body_D (F := As.emp) (fun ds d p => ?_) h⟩
  · obtain ⟨ds, d, p, hd, _⟩ := h
    rw [hd.len]
    obtain ⟨x, y, hx, hy, rfl, rfl⟩ := p
    rfl
  · obtain ⟨x, y, hx, hy, rfl, rfl⟩ := p
    refine vs_ret0 ?_
    refine vd_call (P := PfracD) (ds := [.int (x.num * (y.den : Nat) + y.num * (x.den : Nat)), .int ((x.den : Nat) * (y.den : Nat))]) ?_ ⟨_, _, den_pos x y, bd_den hx hy, rfl, by rw [q_add]⟩
    walk_at "vd"
    · exact rd_mulW (cmulW hx.1 (by rw [den_abs]; exact hy.2) (by decide))
    · exact rd_mulW (cmulW hy.1 (by rw [den_abs]; exact hx.2) (by decide))
    · exact rd_mulW (cmulW (by rw [den_abs]; exact hx.2) (by rw [den_abs]; exact hy.2) (by decide))

theorem sc_law_mul : FnScope ["_law_one", "_law_two"] ["_law_one", "_law_two"] (defScope (topS 32)) := ⟨rfl, rfl, rfl, by decide +kernel, rfl, by decide +kernel, by decide +kernel⟩
theorem cb_law_mul (W : Wd K mg) (c__law_low : Cb P w K mg base "_law_low" 1 ["_law_high", "_law_low_here"] (spD K PfracD)) : Cb P w K mg base "_law_mul" 2 ["_law_one", "_law_two"] (spD K PmulD) := by
  refine mk_cb W 20 (i := 32) rfl sc_law_mul (fun _ _ _ _ _ _ us hl => match us, hl with | [_, _], _ => rfl) (fun vs H Q E h => ?_) fun f cdv A outer s H vs Q E hr h => ⟨_, PSs.nox (
    (pss_one (ps_ret (pe_cb c__law_low (hr.mono (by decide)) rfl (pa_cons (pe_op (op_mulX (K := K) rfl) (pe_ix (ix_seqX (K := K) rfl) (pv 0) pe_int (fun _ _ => rfl)) (pe_ix (ix_seqX (K := K) rfl) (pv 1) pe_int (fun _ _ => rfl))) (pa_cons (pe_op (op_mulX (K := K) rfl) (pe_ix (ix_seqX (K := K) rfl) (pv 0) pe_int (fun _ _ => rfl)) (pe_ix (ix_seqX (K := K) rfl) (pv 1) pe_int (fun _ _ => rfl))) pa_nil)))))), body_D (F := As.emp) (fun ds d p => ?_) h⟩
  · obtain ⟨ds, d, p, hd, _⟩ := h
    rw [hd.len]
    obtain ⟨x, y, hx, hy, rfl, rfl⟩ := p
    rfl
  · obtain ⟨x, y, hx, hy, rfl, rfl⟩ := p
    refine vs_ret0 ?_
    refine vd_call (P := PfracD) (ds := [.int (x.num * y.num), .int ((x.den : Nat) * (y.den : Nat))]) ?_ ⟨_, _, den_pos x y, bd_den hx hy, rfl, by rw [q_mul]⟩
    walk_at "vd"
    · exact rd_mulW (cmulW hx.1 hy.1 (by decide))
    · exact rd_mulW (cmulW (by rw [den_abs]; exact hx.2) (by rw [den_abs]; exact hy.2) (by decide))
end
end NB
end S_NbD1

section S_NbM2
set_option Elab.async false
set_option linter.all false
set_option maxRecDepth 100000
set_option maxHeartbeats 4000000
namespace NB
open PySem PySem.Spec PyProof.Rows L2 PySem.W

/-! ### keys -/
theorem map_inj {α β : Type} {f : α → β} (h : ∀ x y, f x = f y → x = y) : ∀ {xs ys : List α}, xs.map f = ys.map f → xs = ys
  | [], [], _ => rfl
  | [], _ :: _, e => by simp at e
  | _ :: _, [], e => by simp at e
  | x :: xs, y :: ys, e => by
    rw [List.map_cons, List.map_cons] at e
    injection e with e1 e2
    rw [h x y e1, map_inj h e2]
theorem encM_inj (x y : List Nat) (h : encM x = encM y) : x = y := by
  unfold encM at h
  injection h with h
  exact map_inj (fun a b e => by injection e with e; omega) h
theorem encP_inj (x y : Pw) (h : encP x = encP y) : x = y := by
  unfold encP at h
  injection h with h
  exact map_inj encM_inj h
theorem encQ_inj (x y : Rat) (h : encQ x = encQ y) : x = y := by
  unfold encQ at h
  injection h with h
  injection h with h1 h
  injection h with h2 h
  injection h1 with h1
  injection h2 with h2
  exact Rat.ext h1 (by omega)
theorem encR_inj (x y : List Rat) (h : encR x = encR y) : x = y := by
  unfold encR at h
  injection h with h
  exact map_inj encQ_inj h
theorem pdA_map {α : Type} {f : α → PyData} (h : ∀ x, pd (f x) = true) : ∀ xs : List α, pdA (xs.map f) = true
  | [] => by rw [List.map_nil, pdA]
  | x :: xs => by rw [List.map_cons, pdA, h x, pdA_map h xs]; rfl
theorem pd_encM (m : List Nat) : pd (encM m) = true := by
  unfold encM; rw [pd]; exact pdA_map (fun _ => by rw [pd]) m
theorem pd_encP (m : Pw) : pd (encP m) = true := by
  unfold encP; rw [pd]; exact pdA_map pd_encM m
theorem pd_encQ (q : Rat) : pd (encQ q) = true := by
  unfold encQ; simp [pd, pdA]
theorem pd_encR (m : List Rat) : pd (encR m) = true := by
  unfold encR; rw [pd]; exact pdA_map pd_encQ m
theorem dep_nkA {α : Type} {f : α → PyData} {n : Nat} (h : ∀ x, (nk (f x)).depth ≤ n) : ∀ xs : List α, NestedKey.depthAll (nkA (xs.map f)) ≤ n
  | [] => by rw [List.map_nil, nkA]; simp [NestedKey.depthAll]
  | x :: xs => by
    rw [List.map_cons, nkA]
    have := h x
    have := dep_nkA h xs
    simp [NestedKey.depthAll]
    omega
theorem dep_encM (m : List Nat) : (nk (encM m)).depth ≤ 1 := by
  unfold encM
  rw [nk]
  have := dep_nkA (f := fun n : Nat => PyData.int (n : Nat)) (n := 0) (fun x => by rw [nk]; simp [NestedKey.depth]) m
  simp [NestedKey.depth]
  omega
theorem dep_encP (m : Pw) : (nk (encP m)).depth ≤ 2 := by
  unfold encP
  rw [nk]
  have := dep_nkA dep_encM m
  simp [NestedKey.depth]
  omega
theorem dep_encQ (q : Rat) : (nk (encQ q)).depth ≤ 1 := by
  unfold encQ
  simp [nk, nkA, NestedKey.depth, NestedKey.depthAll]
theorem dep_encR (m : List Rat) : (nk (encR m)).depth ≤ 2 := by
  unfold encR
  rw [nk]
  have := dep_nkA dep_encQ m
  simp [NestedKey.depth]
  omega
theorem kP : KeyE encP := ⟨encP_inj, fun x => ⟨_, rfl⟩, pd_encP, fun x => Nat.le_trans (dep_encP x) (by decide)⟩
theorem kM : KeyE encM := ⟨encM_inj, fun x => ⟨_, rfl⟩, pd_encM, fun x => Nat.le_trans (dep_encM x) (by decide)⟩
theorem kR : KeyE encR := ⟨encR_inj, fun x => ⟨_, rfl⟩, pd_encR, fun x => Nat.le_trans (dep_encR x) (by decide)⟩

/-! ### order -/
theorem alikeAll_map {α β : Type} {f : α → PyData} {g : β → PyData} (h : ∀ x y, alike (f x) (g y) = true) : ∀ (xs : List α) (ys : List β), alikeAll (xs.map f) (ys.map g) = true
  | [], _ => by rw [List.map_nil]; unfold alikeAll; rfl
  | x :: xs, [] => by rw [List.map_nil, List.map_cons]; unfold alikeAll; rfl
  | x :: xs, y :: ys => by rw [List.map_cons, List.map_cons, alikeAll, h x y, alikeAll_map h xs ys]; rfl
theorem al_M (x y : List Nat) : alike (encM x) (encM y) = true := by
  unfold encM; rw [alike]; exact alikeAll_map (fun _ _ => by rw [alike]) x y
theorem al_P (x y : Pw) : alike (encP x) (encP y) = true := by
  unfold encP; rw [alike]; exact alikeAll_map al_M x y
theorem al_Q (x y : Rat) : alike (encQ x) (encQ y) = true := by
  unfold encQ; simp [alike, alikeAll]
theorem al_F1 (x y : Pw × Rat) : alike (encF1 x) (encF1 y) = true := by
  unfold encF1; simp [alike, alikeAll, al_P, al_Q]
theorem depA_map {α : Type} {f : α → PyData} {n : Nat} (h : ∀ x, (f x).depth ≤ n) : ∀ xs : List α, PyData.depthAll (xs.map f) ≤ n
  | [] => by rw [List.map_nil]; simp [PyData.depthAll]
  | x :: xs => by
    rw [List.map_cons]
    have := h x
    have := depA_map h xs
    simp [PyData.depthAll]
    omega
theorem dp_M (m : List Nat) : (encM m).depth ≤ 1 := by
  unfold encM
  have := depA_map (f := fun n : Nat => PyData.int (n : Nat)) (n := 0) (fun x => by simp [PyData.depth]) m
  simp [PyData.depth]
  omega
theorem dp_P (m : Pw) : (encP m).depth ≤ 2 := by
  unfold encP
  have := depA_map dp_M m
  simp [PyData.depth]
  omega
theorem dp_Q (q : Rat) : (encQ q).depth ≤ 1 := by
  unfold encQ
  simp [PyData.depth, PyData.depthAll]
theorem dp_F1 (x : Pw × Rat) : (encF1 x).depth ≤ 3 := by
  unfold encF1
  have := dp_P x.1
  have := dp_Q x.2
  simp [PyData.depth, PyData.depthAll]
  omega
theorem sok_map {α : Type} {f : α → PyData} (al : ∀ x y, alike (f x) (f y) = true) (tp : ∀ x, ∃ l, f x = .tuple l) (dp : ∀ x, (f x).depth ≤ 16) {xs : List α} (hl : xs.length ≤ 100000) : SOk (xs.map f) where
  al := AllAlike.of al
  tup := fun d hd => by
    obtain ⟨x, _, rfl⟩ := List.mem_map.mp hd
    exact tp x
  dep := fun d hd => by
    obtain ⟨x, _, rfl⟩ := List.mem_map.mp hd
    exact dp x
  len := by rw [List.length_map]; exact hl
theorem sok_P {xs : List Pw} (h : xs.length ≤ 100000) : SOk (xs.map encP) := sok_map al_P (fun _ => ⟨_, rfl⟩) (fun x => Nat.le_trans (dp_P x) (by decide)) h
theorem sok_M {xs : List (List Nat)} (h : xs.length ≤ 100000) : SOk (xs.map encM) := sok_map al_M (fun _ => ⟨_, rfl⟩) (fun x => Nat.le_trans (dp_M x) (by decide)) h
/-- sorted, by the order of the data -/
def srt {α : Type} (f : α → PyData) (xs : List α) : List α := xs.mergeSort (dataLe false f)
theorem sortD_map {α : Type} (f : α → PyData) (xs : List α) : sortD (xs.map f) = (srt f xs).map f := (sort_maps f fun _ _ _ _ => rfl).symm
theorem srt_perm {α : Type} (f : α → PyData) (xs : List α) : (srt f xs).Perm xs := List.mergeSort_perm _ _
theorem eqv_int (i j : Int) : PyData.eqv (.int i) (.int j) = decide (i = j) := by
  rw [PyData.eqv]
  by_cases h : i = j
  · rw [decide_eq_true h]; exact beq_iff_eq.mpr h
  · rw [decide_eq_false h]; exact beq_eq_false_iff_ne.mpr h
theorem eqv_Q (x y : Rat) : PyData.eqv (encQ x) (encQ y) = decide (x = y) := by
  unfold encQ
  simp only [PyData.eqv, PyData.eqvAll]
  by_cases h : x = y
  · subst h; simp
  · rw [decide_eq_false h]
    by_cases h1 : x.num = y.num
    · have h2 : x.den ≠ y.den := fun e => h (Rat.ext h1 e)
      have h3 : ((x.den : Nat) : Int) ≠ (y.den : Nat) := by omega
      simp [h1, h3]
    · simp [h1]
theorem sh_int {i : Int} : SeqAt.shaped (.int i) = true := rfl
theorem cl_map {α : Type} {f : α → PyData} (h : ∀ x, (f x).canLay0 = true) : ∀ xs : List α, PyData.canLayAll0 (xs.map f) = true
  | [] => by rw [List.map_nil, PyData.canLayAll0]
  | x :: xs => by rw [List.map_cons, PyData.canLayAll0, h x, cl_map h xs]; rfl
theorem cl_Q (x : Rat) : (encQ x).canLay0 = true := by unfold encQ; simp [PyData.canLay0, PyData.canLayAll0]
theorem cl_M (x : List Nat) : (encM x).canLay0 = true := by unfold encM; rw [PyData.canLay0]; exact cl_map (fun _ => by rw [PyData.canLay0]) x
theorem cl_P (x : Pw) : (encP x).canLay0 = true := by unfold encP; rw [PyData.canLay0]; exact cl_map cl_M x
theorem cl_F1 (x : Pw × Rat) : (encF1 x).canLay0 = true := by unfold encF1; simp [PyData.canLay0, PyData.canLayAll0, cl_P, cl_Q]
theorem sh_of {d : PyData} (h : d.canLay0 = true) (hd : d.depth ≤ 64) : SeqAt.shaped d = true := by
  unfold SeqAt.shaped; rw [h, decide_eq_true hd]; rfl
theorem sh_Q (x : Rat) : SeqAt.shaped (encQ x) = true := sh_of (cl_Q x) (Nat.le_trans (dp_Q x) (by decide))
theorem sh_P (x : Pw) : SeqAt.shaped (encP x) = true := sh_of (cl_P x) (Nat.le_trans (dp_P x) (by decide))

/-! ### gathering -/
abbrev Fm : Type := List (Pw × Rat)
def gstep (l : Fm) (p : Pw × Rat) : Fm := put l p.1 ((lk l p.1).getD 0 + p.2)
def gfold (ps : Fm) : Fm := ps.foldl gstep []
def val (l : Fm) (k : Pw) : Rat := (lk l k).getD 0
def gath (ps : Fm) : Fm := ((srt encP ((gfold ps).map (·.1))).filter fun k => decide (val (gfold ps) k ≠ 0)).map fun k => (k, val (gfold ps) k)
theorem gfold_take (ps : Fm) {i : Nat} {p : Pw × Rat} (h : ps[i]? = some p) : gfold (ps.take (i + 1)) = gstep (gfold (ps.take i)) p := by
  unfold gfold
  rw [List.take_add_one, h]
  simp
def BdF (b : Nat) (l : Fm) : Prop := ∀ p ∈ l, Bd b p.2
theorem Bd.zero (b : Nat) : Bd b 0 := ⟨Nat.zero_le _, Nat.one_le_two_pow⟩
theorem BdF.val {b : Nat} {l : Fm} (h : BdF b l) (k : Pw) : Bd b (val l k) := by
  unfold NB.val
  cases e : lk l k with
  | none => exact Bd.zero b
  | some v => exact h _ (lk_some_mem e)
theorem mem_put {l : Fm} {k : Pw} {v : Rat} {p : Pw × Rat} (h : p ∈ put l k v) : p ∈ l ∨ p = (k, v) := by
  induction l with
  | nil => rw [put] at h; exact .inr (List.mem_singleton.mp h)
  | cons q r ih =>
    obtain ⟨a, w⟩ := q
    unfold put at h
    by_cases e : a = k
    · rw [if_pos e] at h
      rcases List.mem_cons.mp h with h | h
      · exact .inr (by rw [h, e])
      · exact .inl (List.mem_cons_of_mem _ h)
    · rw [if_neg e] at h
      rcases List.mem_cons.mp h with h | h
      · exact .inl (by rw [h]; exact List.mem_cons_self)
      · rcases ih h with h | h
        · exact .inl (List.mem_cons_of_mem _ h)
        · exact .inr h
theorem gfold_bd {b : Nat} {ps : Fm} (h : BdF b ps) : ∀ i, i ≤ ps.length → BdF ((b + 1) * i) (gfold (ps.take i))
  | 0, _ => fun p hp => by simp [gfold] at hp
  | i + 1, hi => by
    obtain ⟨p, hp⟩ : ∃ p, ps[i]? = some p := ⟨ps[i], List.getElem?_eq_getElem hi⟩
    rw [gfold_take ps hp]
    have ih := gfold_bd h i (Nat.le_of_lt hi)
    intro q hq
    have m : (b + 1) * i ≤ (b + 1) * (i + 1) := Nat.mul_le_mul_left _ (Nat.le_succ i)
    rcases mem_put hq with hq | hq
    · exact (ih q hq).mono m
    · rw [hq]
      exact (Bd.add (ih.val p.1) (h p (List.mem_of_getElem? hp))).mono (by rw [Nat.mul_succ]; omega)
theorem gfold_len : ∀ (ps l : Fm), (ps.foldl gstep l).length ≤ l.length + ps.length
  | [], l => Nat.le_refl _
  | p :: ps, l => by
    rw [List.foldl_cons, List.length_cons]
    have h1 := gfold_len ps (gstep l p)
    have h2 : (gstep l p).length ≤ l.length + 1 := len_put l p.1 ((lk l p.1).getD 0 + p.2)
    omega
theorem gfold_len' (ps : Fm) : (gfold ps).length ≤ ps.length := by
  have h := gfold_len ps []
  rw [List.length_nil, Nat.zero_add] at h
  exact h
theorem lk_srt {ps : Fm} {k : Pw} (h : k ∈ srt encP ((gfold ps).map (·.1))) : lk (gfold ps) k = some (val (gfold ps) k) := by
  have h1 := (srt_perm encP _).mem_iff.mp h
  have h2 := lk_mem.mpr h1
  unfold val
  cases e : lk (gfold ps) k with
  | none => rw [e] at h2; cases h2
  | some v => rfl
/-- what gathering promises -/
def PgathD (ds : List PyData) (d : PyData) : Prop := ∃ (b : Nat) (ps : Fm), BdF b ps ∧ (b + 1) * ps.length ≤ 4000 ∧ ps.length ≤ 4000 ∧ b ≤ 4000 ∧ ds = [.list (ps.map encF1)] ∧ d = encF (gath ps)
end NB
end S_NbM2

section S_NbD2
set_option Elab.async false
set_option linter.all false
set_option maxRecDepth 100000
set_option maxHeartbeats 4000000
set_option exponentiation.threshold 100000
namespace NB
open PySem PySem.Spec PyProof.Rows L2
local macro_rules | `(tactic| walk_at "vd") => `(tactic| repeat' (first
  | exact vd_var rfl | exact vd_int | exact vd_bl | exact va_nil | exact vba_nil | exact vt_yes
  | with_reducible apply va_cons | with_reducible apply vt_test | with_reducible apply vt_not | with_reducible apply vt_B
  | with_reducible apply vd_tup | with_reducible apply vd_cb | with_reducible apply vd_op | with_reducible apply vd_un
  | exact rd_add | exact rd_ix0 rfl | exact rd_ix1 rfl | exact rd_I0 | exact rd_B0 | exact ru_I
  | exact rg_lenT | exact rg_lenL | exact rc_abs | exact rc_gcd
  | exact Nat.le_of_ble_eq_true rfl))
section
variable {P : Program} {w : World} {K : PySem.W.Frag} {mg : Str → Option Value} {base : Heap}
theorem sc_gathered_wish : FnScope ["pairs", "sums", "factors", "x"] ["pairs"] (defScope (topS 12)) := ⟨rfl, rfl, rfl, by decide +kernel, rfl, by decide +kernel, by decide +kernel⟩
theorem cb_gathered_wish (W : Wd K mg) (c_plus : Cb P w K mg base "plus" 2 ["x", "y"] (spD K PaddD)) : Cb P w K mg base "gathered_wish" 3 ["pairs"] (spD K PgathD) := by
  obtain ⟨aZ, hZ, sZ⟩ := W.zero
  refine mk_cb W 4 (i := 12) rfl sc_gathered_wish (fun _ _ _ _ _ _ us hl => match us, hl with | [_], _ => rfl) (fun vs H Q E h => ?_) fun f cdv A outer s H vs Q E hr h => ⟨_, PSs.nox (
    (pss_cons (ps_set (i := 1) sc_gathered_wish.nd rfl (by first | exact Or.inl rfl | exact Or.inr rfl) (pe_dcX (P := P) (w := w) (K := K) rfl rfl rfl (enc := encP)))
  (pss_cons (ps_for PassesOwn.never rfl (pi_seqX (K := K) rfl (pv 0)) (pg_tupX (n := 2) (K := K) rfl rfl (pgs_cons (pg_name (i := 2) sc_gathered_wish.nd rfl (by first | exact Or.inl rfl | exact Or.inr rfl)) (pgs_cons (pg_name (i := 3) sc_gathered_wish.nd rfl (by first | exact Or.inl rfl | exact Or.inr rfl)) pgs_nil))) (pss_one (ps_asg (pe_cb c_plus (hr.mono (by omega)) rfl (pa_cons (pe_dmX (P := P) (w := w) (K := K) rfl rfl rfl kP PySem.F.slot_dict_get PySem.F.type_dict_get (mt_getCX (P := P) (w := w) (K := K) rfl rfl rfl kP hr.units) (pv 1) (pa_cons (pv 2) (pa_cons (pe_glob (v := .ref aZ) rfl hZ rfl) pa_nil))) (pa_cons (pv 3) pa_nil))) (pg_sub (pv 1) (pv 2) (set_dcX (P := P) (w := w) (K := K) rfl rfl rfl kP hr.units)))))
  (pss_one (ps_ret (pe_callTy (cr_tupX (K := K) rfl) (by rfl) (W.free "tuple") (by decide +kernel) (pa_cons (pe_lc (own := [("factors", 2)]) rfl sc_gathered_wish.nd (pi_listX (K := K) rfl (pe_callB (cr_sortCX (P := P) (w := w) (K := K) rfl rfl rfl kP rfl hr.units) (by rfl) (W.free "sorted") (by decide +kernel) (pa_cons (pv 1) pa_nil))) (blkOk_by (N := ["pairs", "sums", "factors", "x"]) (sc := defScope (topS 12)) (by decide +kernel)) (fun _ _ _ _ _ => (pg_name (i := 2) sc_gathered_wish.nd rfl (by first | exact Or.inl rfl | exact Or.inr rfl))) (fun _ _ _ _ _ => (pts_one (pt_cmpR (op_neX (K := K) rfl hr.units) (pe_ix (ix_dcX (P := P) (w := w) (K := K) rfl rfl rfl kP hr.units) (pv 1) (pv 2) (fun _ _ => rfl)) (pe_glob (v := .ref aZ) rfl hZ rfl) (nomark _)))) (fun _ _ _ _ _ => (pe_tup (pa_cons (pv 2) (pa_cons (pe_ix (ix_dcX (P := P) (w := w) (K := K) rfl rfl rfl kP hr.units) (pv 1) (pv 2) (fun _ _ => rfl)) pa_nil))))) pa_nil))))))), body_D (F := As.emp) (fun ds d p => ?_) h⟩
  · obtain ⟨ds, d, p, hd, _⟩ := h
    rw [hd.len]
    obtain ⟨b, ps, hb, hb1, hl, hb2, rfl, rfl⟩ := p
    rfl
  · obtain ⟨b, ps, hb, hb1, hl, hb2, rfl, rfl⟩ := p
    have lf : ∀ i, (gfold (ps.take i)).length < 100000 := fun i => by
      have h1 := gfold_len' (ps.take i)
      rw [List.length_take] at h1
      omega
    refine vs_newD (E := kP) (encv := encQ) fun a ha => ⟨_, rs_rt, ?_⟩
    refine vs_seq (vs_for (fun i e => e = [.d (.list (ps.map encF1)), .v (.ref a), .no, .no]) (fun i => As.emp.and (.dc P w K encP kP encQ a (gfold (ps.take i)))) (vi_seqL (vb_var rfl)) ⟨_, rfl, Le.refl _⟩ (fun H h => h) fun i d e hd he => ?_) fun e he => ?_
    · subst he
      rw [List.getElem?_map] at hd
      obtain ⟨p, hp, rfl⟩ := Option.map_eq_some_iff.mp hd
      have hi : i < ps.length := (List.getElem?_eq_some_iff.mp hp).1
      have hbi := gfold_bd hb i (Nat.le_of_lt hi)
      have m4 : (b + 1) * i ≤ 4000 := Nat.le_trans (Nat.mul_le_mul_left _ (Nat.le_of_lt hi)) hb1
      refine ⟨_, _, gd_tup (gds_cons gd_name (gds_cons gd_name gds_nil)) rfl, ?_⟩
      refine (vs_dset (k := p.1) (x := val (gfold (ps.take i)) p.1 + p.2) rfl ?_ im_encQ (vd_var rfl) As.off_emp (lf i)).le (.nx (fun e he => ⟨_, rfl, by rw [he]; exact .same (.same (.drop (.drop .nil)))⟩) fun H h => ?_)
      · refine vd_call (P := PaddD) (ds := [encQ (val (gfold (ps.take i)) p.1), encQ p.2]) (va_cons (vd_getC (z := (0 : Rat)) rfl (vd_var rfl) (vd_kZ sZ) rfl) (va_cons (vd_var rfl) va_nil)) ⟨_, _, (hbi.val p.1).mono m4, (hb p (List.mem_of_getElem? hp)).mono hb2, rfl, rfl⟩
      · rw [gfold_take ps hp]; exact h
    · subst he
      refine VS.pre (F1 := As.emp.and (.dc P w K encP kP encQ a (gfold ps))) ?_ (fun H h => by
        rw [List.length_map, List.take_length] at h
        exact h)
      refine vs_freeze (i := 1) rfl ha im_encQ (fun d hd => by rw [hd]; exact im_encF _) ?_
      refine vs_ret0 ?_
      have lk0 : ((gfold ps).map (·.1)).length ≤ 100000 := by
        have := lf ps.length
        rw [List.take_length] at this
        rw [List.length_map]
        omega
      refine VD.is (vd_cb (va_cons (VN.dat (vn_lc (ds := (srt encP ((gfold ps).map (·.1))).map encP) (os := ((srt encP ((gfold ps).map (·.1))).filter fun k => decide (val (gfold ps) k ≠ 0)).map fun k => encF1 (k, val (gfold ps) k)) ?_ ?_ (lc_filter fun k hk => ?_))) va_nil) rg_tupL) ?_
      · refine vi_lstB (vb_new ((vn_sortC rfl ?_).is ?_) (imA_map _ im_encP _))
        · rw [show ((gfold ps).map fun q => encP q.1) = ((gfold ps).map (·.1)).map encP from by rw [List.map_map]; rfl]
          exact sok_P lk0
        · rw [show ((gfold ps).map fun q => encP q.1) = ((gfold ps).map (·.1)).map encP from by rw [List.map_map]; rfl, sortD_map]
      · rw [List.length_map]
        refine Nat.le_trans (List.length_filter_le _ _) ?_
        rw [(srt_perm encP _).length_eq]
        exact lk0
      · refine ⟨_, _, gd_name, by simp, VT.is (vt_test (vd_op (vd_ixC rfl (vd_var rfl) (lk_srt hk)) (vd_kZ sZ) (rd_neD (sh_Q _) (sh_Q 0)))) ?_, fun _ => vb_im (vd_tup (va_cons (vd_var rfl) (va_cons (vd_ixC rfl (vd_var rfl) (lk_srt hk)) va_nil)) (Nat.le_of_ble_eq_true rfl)) (im_encF1 (k, val (gfold ps) k))⟩
        rw [eqv_Q]
        simp
      · unfold encF gath
        rw [List.map_map]
        rfl

theorem sc_law_gathered : FnScope ["_law_pairs", "_law_sums", "_law_own", "_law_bit"] ["_law_pairs"] (defScope (topS 33)) := ⟨rfl, rfl, rfl, by decide +kernel, rfl, by decide +kernel, by decide +kernel⟩
theorem cb_law_gathered (W : Wd K mg) (c__law_add : Cb P w K mg base "_law_add" 2 ["_law_one", "_law_two"] (spD K PaddD)) : Cb P w K mg base "_law_gathered" 3 ["_law_pairs"] (spD K PgathD) := by
  refine mk_cb W 21 (i := 33) rfl sc_law_gathered (fun _ _ _ _ _ _ us hl => match us, hl with | [_], _ => rfl) (fun vs H Q E h => ?_) fun f cdv A outer s H vs Q E hr h => ⟨_, PSs.nox (
    (pss_cons (ps_set (i := 1) sc_law_gathered.nd rfl (by first | exact Or.inl rfl | exact Or.inr rfl) (pe_dcX (P := P) (w := w) (K := K) rfl rfl rfl (enc := encP)))
  (pss_cons (ps_for PassesOwn.never rfl (pi_seqX (K := K) rfl (pv 0)) (pg_tupX (n := 2) (K := K) rfl rfl (pgs_cons (pg_name (i := 2) sc_law_gathered.nd rfl (by first | exact Or.inl rfl | exact Or.inr rfl)) (pgs_cons (pg_name (i := 3) sc_law_gathered.nd rfl (by first | exact Or.inl rfl | exact Or.inr rfl)) pgs_nil))) (pss_one (ps_asg (pe_cb c__law_add (hr.mono (by omega)) rfl (pa_cons (pe_dmX (P := P) (w := w) (K := K) rfl rfl rfl kP PySem.F.slot_dict_get PySem.F.type_dict_get (mt_getCX (P := P) (w := w) (K := K) rfl rfl rfl kP hr.units) (pv 1) (pa_cons (pv 2) (pa_cons (pe_tup (pa_cons pe_int (pa_cons pe_int pa_nil))) pa_nil))) (pa_cons (pv 3) pa_nil))) (pg_sub (pv 1) (pv 2) (set_dcX (P := P) (w := w) (K := K) rfl rfl rfl kP hr.units)))))
  (pss_one (ps_ret (pe_callTy (cr_tupX (K := K) rfl) (by rfl) (W.free "tuple") (by decide +kernel) (pa_cons (pe_lc (own := [("_law_own", 2)]) rfl sc_law_gathered.nd (pi_listX (K := K) rfl (pe_callB (cr_sortCX (P := P) (w := w) (K := K) rfl rfl rfl kP rfl hr.units) (by rfl) (W.free "sorted") (by decide +kernel) (pa_cons (pv 1) pa_nil))) (blkOk_by (N := ["_law_pairs", "_law_sums", "_law_own", "_law_bit"]) (sc := defScope (topS 33)) (by decide +kernel)) (fun _ _ _ _ _ => (pg_name (i := 2) sc_law_gathered.nd rfl (by first | exact Or.inl rfl | exact Or.inr rfl))) (fun _ _ _ _ _ => (pts_one (pt_cmpR (op_neX (K := K) rfl hr.units) (pe_ix (ix_dcX (P := P) (w := w) (K := K) rfl rfl rfl kP hr.units) (pv 1) (pv 2) (fun _ _ => rfl)) (pe_tup (pa_cons pe_int (pa_cons pe_int pa_nil))) (nomark _)))) (fun _ _ _ _ _ => (pe_tup (pa_cons (pv 2) (pa_cons (pe_ix (ix_dcX (P := P) (w := w) (K := K) rfl rfl rfl kP hr.units) (pv 1) (pv 2) (fun _ _ => rfl)) pa_nil))))) pa_nil))))))), body_D (F := As.emp) (fun ds d p => ?_) h⟩
  · obtain ⟨ds, d, p, hd, _⟩ := h
    rw [hd.len]
    obtain ⟨b, ps, hb, hb1, hl, hb2, rfl, rfl⟩ := p
    rfl
  · obtain ⟨b, ps, hb, hb1, hl, hb2, rfl, rfl⟩ := p
    have lf : ∀ i, (gfold (ps.take i)).length < 100000 := fun i => by
      have h1 := gfold_len' (ps.take i)
      rw [List.length_take] at h1
      omega
    refine vs_newD (E := kP) (encv := encQ) fun a ha => ⟨_, rs_rt, ?_⟩
    refine vs_seq (vs_for (fun i e => e = [.d (.list (ps.map encF1)), .v (.ref a), .no, .no]) (fun i => As.emp.and (.dc P w K encP kP encQ a (gfold (ps.take i)))) (vi_seqL (vb_var rfl)) ⟨_, rfl, Le.refl _⟩ (fun H h => h) fun i d e hd he => ?_) fun e he => ?_
    · subst he
      rw [List.getElem?_map] at hd
      obtain ⟨p, hp, rfl⟩ := Option.map_eq_some_iff.mp hd
      have hi : i < ps.length := (List.getElem?_eq_some_iff.mp hp).1
      have hbi := gfold_bd hb i (Nat.le_of_lt hi)
      have m4 : (b + 1) * i ≤ 4000 := Nat.le_trans (Nat.mul_le_mul_left _ (Nat.le_of_lt hi)) hb1
      refine ⟨_, _, gd_tup (gds_cons gd_name (gds_cons gd_name gds_nil)) rfl, ?_⟩
      refine (vs_dset (k := p.1) (x := val (gfold (ps.take i)) p.1 + p.2) rfl ?_ im_encQ (vd_var rfl) As.off_emp (lf i)).le (.nx (fun e he => ⟨_, rfl, by rw [he]; exact .same (.same (.drop (.drop .nil)))⟩) fun H h => ?_)
      · refine vd_call (P := PaddD) (ds := [encQ (val (gfold (ps.take i)) p.1), encQ p.2]) (va_cons (vd_getC (z := (0 : Rat)) rfl (vd_var rfl) (show VD K _ _ (encQ 0) from vd_tup (va_cons vd_int (va_cons vd_int va_nil)) (Nat.le_of_ble_eq_true rfl)) rfl) (va_cons (vd_var rfl) va_nil)) ⟨_, _, (hbi.val p.1).mono m4, (hb p (List.mem_of_getElem? hp)).mono hb2, rfl, rfl⟩
      · rw [gfold_take ps hp]; exact h
    · subst he
      refine VS.pre (F1 := As.emp.and (.dc P w K encP kP encQ a (gfold ps))) ?_ (fun H h => by
        rw [List.length_map, List.take_length] at h
        exact h)
      refine vs_freeze (i := 1) rfl ha im_encQ (fun d hd => by rw [hd]; exact im_encF _) ?_
      refine vs_ret0 ?_
      have lk0 : ((gfold ps).map (·.1)).length ≤ 100000 := by
        have := lf ps.length
        rw [List.take_length] at this
        rw [List.length_map]
        omega
      refine VD.is (vd_cb (va_cons (VN.dat (vn_lc (ds := (srt encP ((gfold ps).map (·.1))).map encP) (os := ((srt encP ((gfold ps).map (·.1))).filter fun k => decide (val (gfold ps) k ≠ 0)).map fun k => encF1 (k, val (gfold ps) k)) ?_ ?_ (lc_filter fun k hk => ?_))) va_nil) rg_tupL) ?_
      · refine vi_lstB (vb_new ((vn_sortC rfl ?_).is ?_) (imA_map _ im_encP _))
        · rw [show ((gfold ps).map fun q => encP q.1) = ((gfold ps).map (·.1)).map encP from by rw [List.map_map]; rfl]
          exact sok_P lk0
        · rw [show ((gfold ps).map fun q => encP q.1) = ((gfold ps).map (·.1)).map encP from by rw [List.map_map]; rfl, sortD_map]
      · rw [List.length_map]
        refine Nat.le_trans (List.length_filter_le _ _) ?_
        rw [(srt_perm encP _).length_eq]
        exact lk0
      · refine ⟨_, _, gd_name, by simp, VT.is (vt_test (vd_op (vd_ixC rfl (vd_var rfl) (lk_srt hk)) (show VD K _ _ (encQ 0) from vd_tup (va_cons vd_int (va_cons vd_int va_nil)) (Nat.le_of_ble_eq_true rfl)) (rd_neD (sh_Q _) (sh_Q 0)))) ?_, fun _ => vb_im (vd_tup (va_cons (vd_var rfl) (va_cons (vd_ixC rfl (vd_var rfl) (lk_srt hk)) va_nil)) (Nat.le_of_ble_eq_true rfl)) (im_encF1 (k, val (gfold ps) k))⟩
        rw [eqv_Q]
        simp
      · unfold encF gath
        rw [List.map_map]
        rfl
end
end NB
end S_NbD2

section S_NbX
set_option Elab.async false
set_option linter.all false
set_option maxRecDepth 100000
set_option maxHeartbeats 4000000
namespace NB
open PySem PySem.Spec PyProof.Rows L2
open Evl (Ex)

/-! ### isinstance -/
def tyN : PyData → String
  | .none => "NoneType"
  | .bool _ => "bool"
  | .int _ => "int"
  | .str _ => "str"
  | .list _ => "list"
  | .tuple _ => "tuple"
  | .dict _ => "dict"
def isN (s n : String) : Bool := s == n || (s == "bool" && n == "int")
def isT (d : PyData) (n : String) : Bool := isN (tyN d) n
theorem kit_tab : ∀ s ∈ ["NoneType", "bool", "int", "str", "list", "tuple"], ∀ n ∈ ["list", "tuple", "bool", "str", "int"], kitB s n = some (isN s n) := by decide +kernel
theorem dt_ty {K : PySem.W.Frag} {H : Hp} : ∀ {d : PyData} {v : V}, Dt K H v d → TyX K H v (.type (tyN d))
  | _, _, .non => .base .non
  | _, _, .bl b => .base (.bl b)
  | _, _, .int i => .base (.int i)
  | _, _, .lst h _ => .base (.lst h)
  | _, _, .tup h _ => by
    rcases h with (h | ⟨o, h⟩) | h
    · exact .base (.tup h)
    · exact .fTuple h
    · obtain ⟨o, us, n, h1, h2, h3, h4, h5⟩ := h
      exact .kTuple h1 h2
theorem kit_at {n : String} (hn : n ∈ ["list", "tuple", "bool", "str", "int"]) (d : PyData) (hd : ∀ es, d ≠ .dict es) : kitB (tyN d) n = some (isT d n) := by
  refine kit_tab _ ?_ n hn
  cases d with
  | dict es => exact absurd rfl (hd es)
  | _ => simp [tyN]
theorem dt_nod {K : PySem.W.Frag} {H : Hp} {d : PyData} {v : V} (h : Dt K H v d) : ∀ es, d ≠ .dict es := fun es e => by
  subst e; cases h
section
variable {K : PySem.W.Frag} {env : List Sl} {ta te : TE} {tr : TA} {d a b : PyData} {ds es : List PyData} {n m : String}
theorem vd_isi (h : VD K ta env d) (hn : n ∈ ["list", "tuple", "bool", "str", "int"] := by simp) : VD K (tCB (rIsi K) (tCons ta (tCons (tC (.ty n)) tNil))) env (.bool (isT d n)) := fun σ B s H1 e Q q =>
  h σ B s H1 e _ fun v H2 e2 hv => ⟨v, .ty n, _, .type n, isT d n, rfl, .ty n, dt_ty hv, kit_ty (kit_at hn d (dt_nod hv)), q _ H2 e2 (.bl _)⟩
theorem vd_isi2 (h : VD K ta env d) (hn : n ∈ ["list", "tuple", "bool", "str", "int"] := by simp) (hm : m ∈ ["list", "tuple", "bool", "str", "int"] := by simp) :
    VD K (tCB (rIsiT K) (tCons ta (tCons (tTup (tCons (tC (.ty n)) (tCons (tC (.ty m)) tNil))) tNil))) env (.bool (isT d n || isT d m)) := fun σ B s H1 e Q q =>
  h σ B s H1 e _ fun v H2 e2 hv => ⟨(by show 2 ≤ sizeLine; decide), fun p hp => ⟨v, p, [.ty n, .ty m], _, [.type n, .type m], isT d n || isT d m, rfl, upd_same, .cons (.ty n) (.cons (.ty m) .nil), dt_ty (Dt.ex (Ex.new hp) _ _ hv),
    kitAny_cons (kit_ty (kit_at hn d (dt_nod hv))) (fun z => kitAny_cons (kit_ty (kit_at hm d (dt_nod hv))) (fun z2 => by rw [z, z2]; rfl) (fun z2 => by rw [z, z2]; rfl)) (fun z => by rw [z]; rfl), q _ _ (e2.trans (Ex.new hp)) (.bl _)⟩⟩

/-! ### (x, *rest) -/
theorem va_starT (h : VD K te env (.tuple ds)) (hr : VA K tr env es) : VA K (StX.tStar K te tr) env (ds ++ es) := fun σ B s H1 e Q q =>
  h σ B s H1 e _ fun v H2 e2 hv => by
    obtain ⟨p, xs, rfl, hp, hx⟩ := dt_tup hv
    exact ⟨p, xs, rfl, .inl hp, hr σ B s H2 (e.trans e2) _ fun ys H3 e3 hy => q _ H3 (e2.trans e3) ((DtA.ex e3 _ _ hx).app hy)⟩

/-! ### x in xs, of ints -/
theorem eqV_int (i j : Int) : eqV (.int i) (.int j) = decide (j = i) := by
  unfold eqV
  by_cases h : j = i
  · subst h; simp
  · rw [decide_eq_false h]
    simp
    exact fun e => h e.symm
theorem inV_ints (i : Int) : ∀ ns : List Int, inV (.int i) (ns.map V.int) = decide (i ∈ ns)
  | [] => by simp [inV]
  | n :: ns => by
    have ih := inV_ints i ns
    unfold inV at ih ⊢
    rw [List.map_cons, List.any_cons, ih, eqV_int]
    by_cases h : i = n
    · simp [h]
    · simp [h]
theorem flat_ints (ns : List Int) : (ns.map V.int).all flatV = true := by
  rw [List.all_eq_true]
  intro x hx
  obtain ⟨n, _, rfl⟩ := List.mem_map.mp hx
  rfl
theorem rd_inT {i : Int} {ns : List Int} : RDD K (rIn K false) (.int i) (.tuple (ns.map .int)) (.bool (decide (i ∈ ns))) := fun H x y hx hy Q q => by
  obtain ⟨p, ys, rfl, hp, h⟩ := dt_tup hy
  rw [dta_ints h] at hp
  rw [dt_int hx]
  exact ⟨p, _, rfl, .inr hp, rfl, flat_ints _, q _ H (Ex.refl _) (by rw [inV_ints]; exact .bl _)⟩
theorem rd_notInT {i : Int} {ns : List Int} : RDD K (rIn K true) (.int i) (.tuple (ns.map .int)) (.bool (!decide (i ∈ ns))) := fun H x y hx hy Q q => by
  obtain ⟨p, ys, rfl, hp, h⟩ := dt_tup hy
  rw [dta_ints h] at hp
  rw [dt_int hx]
  exact ⟨p, _, rfl, .inr hp, rfl, flat_ints _, q _ H (Ex.refl _) (by rw [inV_ints]; exact .bl _)⟩

/-! ### slices of lists -/
theorem DtA.cut {H : Hp} {vs : List V} {lo hi : Option Int} (h : DtA K H vs ds) : DtA K H (cutV vs lo hi) (cutD ds lo hi) := by
  unfold cutV cutD
  rw [h.len]
  exact (h.drop _).take _
theorem vn_sl {tl th : TO} {lo hi : Option Int} (h : VD K te env (.list ds)) (hl : ∀ σ H (Q : Option Int → Hp → Prop), Q lo H → tl σ H Q) (hh : ∀ σ H (Q : Option Int → Hp → Prop), Q hi H → th σ H Q) : VN K (tSl (rSlL K) te tl th) env (cutD ds lo hi) := fun σ B s H1 e Q q =>
  h σ B s H1 e _ fun v H2 e2 hv => hl σ H2 _ (hh σ H2 _ (by
    obtain ⟨p, xs, rfl, hp, hx⟩ := dt_lst hv
    exact ⟨p, xs, rfl, SqL.of hp, fun z hz => q z _ _ (e2.back hz) (e2.trans (Ex.new hz)) upd_same (DtA.ex (Ex.new hz) _ _ hx.cut)⟩))
theorem part_none : ∀ (σ : L2.St) (H : Hp) (Q : Option Int → Hp → Prop), Q none H → tNoPart σ H Q := fun _ _ _ q => q
theorem part_int {i : Int} : ∀ (σ : L2.St) (H : Hp) (Q : Option Int → Hp → Prop), Q (some i) H → tPart (tC (.int i)) σ H Q := fun _ _ _ q => ⟨i, rfl, q⟩
end
end NB
end S_NbX

section S_NbM3
set_option Elab.async false
set_option linter.all false
set_option maxRecDepth 100000
set_option maxHeartbeats 4000000
namespace NB
open PySem PySem.Spec PyProof.Rows L2 PySem.W

/-! ### tuple_of -/
mutual
def tupOf : PyData → PyData
  | .list ds => .tuple (tupA ds)
  | .tuple ds => .tuple (tupA ds)
  | .none => .none
  | .bool b => .bool b
  | .int i => .int i
  | .str s => .str s
  | .dict es => .dict es
def tupA : List PyData → List PyData
  | [] => []
  | d :: ds => tupOf d :: tupA ds
end
theorem tupA_map (ds : List PyData) : tupA ds = ds.map tupOf := by
  induction ds with
  | nil => rw [tupA]; rfl
  | cons d ds ih => rw [tupA, ih]; rfl
/-- its rows are short -/
def lnk : PyData → Bool
  | .list ds => decide (ds.length ≤ 100000) && lnkA ds
  | .tuple ds => decide (ds.length ≤ 100000) && lnkA ds
  | .dict _ => false
  | _ => true
where lnkA : List PyData → Bool
  | [] => true
  | d :: ds => lnk d && lnkA ds
theorem lnkA_all : ∀ ds : List PyData, lnk.lnkA ds = ds.all lnk
  | [] => rfl
  | d :: ds => by
    show (lnk d && lnk.lnkA ds) = _
    rw [lnkA_all ds]; rfl
theorem lnk_tup {ds : List PyData} (hl : ds.length ≤ 100000) (h : ∀ d ∈ ds, lnk d = true) : lnk (.tuple ds) = true := by
  show (decide (ds.length ≤ 100000) && lnk.lnkA ds) = true
  rw [decide_eq_true hl, lnkA_all, List.all_eq_true.mpr h]; rfl
theorem lnk_lst {ds : List PyData} (hl : ds.length ≤ 100000) (h : ∀ d ∈ ds, lnk d = true) : lnk (.list ds) = true := by
  show (decide (ds.length ≤ 100000) && lnk.lnkA ds) = true
  rw [decide_eq_true hl, lnkA_all, List.all_eq_true.mpr h]; rfl
theorem mem_map_all {α : Type} {f : α → PyData} {p : PyData → Prop} {xs : List α} (h : ∀ x ∈ xs, p (f x)) : ∀ d ∈ xs.map f, p d := fun d hd => by
  obtain ⟨x, hx, rfl⟩ := List.mem_map.mp hd
  exact h x hx
/-- the sizes of powers -/
def SzP (p : Pw) : Prop := p.length ≤ 1000 ∧ ∀ m ∈ p, m.length ≤ 1000
def SzF (f : Fm) : Prop := f.length ≤ 4000 ∧ ∀ x ∈ f, SzP x.1
theorem lnk_Q (q : Rat) : lnk (encQ q) = true := by
  refine lnk_tup (by show 2 ≤ 100000; decide) fun d hd => ?_
  rcases List.mem_cons.mp hd with rfl | hd
  · rfl
  · rw [List.mem_singleton.mp hd]; rfl
theorem lnk_M {m : List Nat} (h : m.length ≤ 1000) : lnk (encM m) = true := lnk_tup (by rw [List.length_map]; omega) (mem_map_all fun _ _ => rfl)
theorem lnk_P {p : Pw} (h : SzP p) : lnk (encP p) = true := lnk_tup (by rw [List.length_map]; have := h.1; omega) (mem_map_all fun m hm => lnk_M (h.2 m hm))
theorem lnk_2 {a b : PyData} (h1 : lnk a = true) (h2 : lnk b = true) : lnk (.tuple [a, b]) = true := lnk_tup (by show 2 ≤ 100000; decide) fun d hd => by
  rcases List.mem_cons.mp hd with rfl | hd
  · exact h1
  · rw [List.mem_singleton.mp hd]; exact h2
theorem lnk_F1 {x : Pw × Rat} (h : SzP x.1) : lnk (encF1 x) = true := lnk_2 (lnk_P h) (lnk_Q _)
theorem lnk_F {f : Fm} (h : SzF f) : lnk (encF f) = true := lnk_tup (by rw [List.length_map]; have := h.1; omega) (mem_map_all fun x hx => lnk_F1 (h.2 x hx))
mutual
theorem tupOf_im : ∀ d : PyData, im d = true → tupOf d = d
  | .none, _ => by rw [tupOf]
  | .bool _, _ => by rw [tupOf]
  | .int _, _ => by rw [tupOf]
  | .str _, _ => by rw [tupOf]
  | .list _, h => by cases h
  | .dict _, h => by cases h
  | .tuple ds, h => by rw [tupOf, tupA_im ds h]
theorem tupA_im : ∀ ds : List PyData, imA ds = true → tupA ds = ds
  | [], _ => by rw [tupA]
  | d :: ds, h => by
    have m : (im d && imA ds) = true := h
    rw [Bool.and_eq_true] at m
    rw [tupA, tupOf_im d m.1, tupA_im ds m.2]
end
mutual
theorem im_tupOf : ∀ d : PyData, lnk d = true → im (tupOf d) = true
  | .none, _ => by rw [tupOf]; rfl
  | .bool _, _ => by rw [tupOf]; rfl
  | .int _, _ => by rw [tupOf]; rfl
  | .str _, _ => by rw [tupOf]; rfl
  | .dict _, h => by cases h
  | .list ds, h => by
    have h : (decide (ds.length ≤ 100000) && lnk.lnkA ds) = true := h
    rw [Bool.and_eq_true] at h
    rw [tupOf]
    exact imA_tupA ds h.2
  | .tuple ds, h => by
    have h : (decide (ds.length ≤ 100000) && lnk.lnkA ds) = true := h
    rw [Bool.and_eq_true] at h
    rw [tupOf]
    exact imA_tupA ds h.2
theorem imA_tupA : ∀ ds : List PyData, lnk.lnkA ds = true → imA (tupA ds) = true
  | [], _ => by rw [tupA]; rfl
  | d :: ds, h => by
    have h : (lnk d && lnk.lnkA ds) = true := h
    rw [Bool.and_eq_true] at h
    rw [tupA]
    show (im (tupOf d) && imA (tupA ds)) = true
    rw [im_tupOf d h.1, imA_tupA ds h.2]; rfl
end
theorem dep_tup {ds : List PyData} {n : Nat} (h : ∀ d ∈ ds, d.depth ≤ n) : (PyData.tuple ds).depth ≤ n + 1 := by
  have : ∀ es : List PyData, (∀ d ∈ es, d.depth ≤ n) → PyData.depthAll es ≤ n := by
    intro es
    induction es with
    | nil => intro _; simp [PyData.depthAll]
    | cons e es ih =>
      intro q
      have h1 := q e List.mem_cons_self
      have h2 := ih fun d hd => q d (List.mem_cons_of_mem _ hd)
      simp [PyData.depthAll]; omega
  have := this ds h
  simp [PyData.depth]; omega
theorem dep_lst {ds : List PyData} {n : Nat} (h : ∀ d ∈ ds, d.depth ≤ n) : (PyData.list ds).depth ≤ n + 1 := by
  have := dep_tup h
  simp [PyData.depth] at this ⊢; omega
theorem dep_in {ds : List PyData} {d : PyData} (h : d ∈ ds) : d.depth ≤ PyData.depthAll ds := by
  induction ds with
  | nil => cases h
  | cons e es ih =>
    simp [PyData.depthAll]
    rcases List.mem_cons.mp h with rfl | h
    · omega
    · have := ih h; omega
theorem dp_F (f : Fm) : (encF f).depth ≤ 4 := dep_tup (mem_map_all fun x _ => dp_F1 x)
def PtupD (n : Nat) (ds : List PyData) (d : PyData) : Prop := ∃ x, x.depth < n ∧ lnk x = true ∧ ds = [x] ∧ d = tupOf x

/-! ### factors -/
def nz (m : List Nat) : Bool := m.any fun n => n != 0
def facs (p : Pw) : Pw := srt encM (p.filter nz)
def PfacD (ds : List PyData) (d : PyData) : Prop := ∃ (k : Bool) (p : Pw), p.length ≤ 1000 ∧ ds = [dk k (p.map encM)] ∧ d = encP (facs p)
def zs (m : List Nat) : List Int := m.map fun n => ((n : Nat) : Int)
theorem encM_zs (m : List Nat) : encM m = .tuple ((zs m).map .int) := by
  unfold encM zs
  rw [List.map_map]; rfl
theorem ne0 (n : Nat) : (((n : Nat) : Int) != 0) = (n != 0) := by
  by_cases h : n = 0
  · subst h; rfl
  · have h2 : ((n : Nat) : Int) ≠ 0 := by omega
    rw [bne_iff_ne.mpr h2, bne_iff_ne.mpr h]
theorem any_zs (m : List Nat) : ((zs m).any fun n => n != 0) = nz m := by
  unfold zs nz
  rw [List.any_map]
  congr 1
  funext n
  exact ne0 n
theorem sum_zs : ∀ m : List Nat, (zs m).sum = ((m.sum : Nat) : Int)
  | [] => rfl
  | n :: m => by
    have := sum_zs m
    unfold zs at this ⊢
    rw [List.map_cons, List.sum_cons, List.sum_cons, this]
    omega
theorem sum_nz : ∀ m : List Nat, decide (0 < ((m.sum : Nat) : Int)) = nz m
  | [] => rfl
  | n :: m => by
    have ih := sum_nz m
    unfold nz at ih ⊢
    rw [List.any_cons, ← ih, List.sum_cons]
    by_cases h : n = 0
    · subst h; simp
    · have : 0 < ((n + m.sum : Nat) : Int) := by omega
      rw [decide_eq_true this]
      simp [h]
section
variable {K : PySem.W.Frag}
theorem rc_anyM {m : List Nat} : RCD K (rAnyG K) [encM m] (.bool (nz m)) := by
  rw [encM_zs, ← any_zs]
  exact rc_anyT
theorem rc_sumM {m : List Nat} : RCD K (rSumG K) [encM m] (.int ((m.sum : Nat) : Int)) := by
  rw [encM_zs, ← sum_zs]
  exact rc_sumT
end
theorem vi_seqK {K : PySem.W.Frag} {env : List Sl} {te : TE} {k : Bool} {ds : List PyData} (h : VB K te env (dk k ds)) : VI K (iSeq K te) env ds := by
  cases k with
  | true => exact vi_seqL h
  | false => exact vi_seqT h
theorem len_facs (p : Pw) : (facs p).length ≤ p.length := by
  unfold facs
  rw [(srt_perm encM _).length_eq]
  exact List.length_filter_le _ _

/-! ### wishes -/
/-- numbers of a row of pairs: room for its sums -/
structure Rm (b : Nat) (ps : Fm) : Prop where
  bd : BdF b ps
  m : (b + 1) * ps.length ≤ 4000
  l : ps.length ≤ 4000
  b4 : b ≤ 4000
theorem Rm.map {b : Nat} {ps : Fm} {f : Pw × Rat → Pw × Rat} (h : Rm b ps) (hf : ∀ x, (f x).2 = x.2) : Rm b (ps.map f) :=
  ⟨fun p hp => by obtain ⟨x, hx, rfl⟩ := List.mem_map.mp hp; rw [hf]; exact h.bd x hx, by rw [List.length_map]; exact h.m, by rw [List.length_map]; exact h.l, h.b4⟩
def wish (ps : Fm) : Fm := gath (ps.map fun p => (facs p.1, p.2))
def PmadeD (ds : List PyData) (d : PyData) : Prop := ∃ (b : Nat) (ps : Fm) (x : PyData), Rm b ps ∧ SzF ps ∧ lnk x = true ∧ x.depth < 8 ∧ tupOf x = encF ps ∧ ds = [x] ∧ d = encF (gath (ps.map fun p => (srt encM p.1, p.2)))
def PwishD (ds : List PyData) (d : PyData) : Prop := ∃ (b : Nat) (ps : Fm), Rm b ps ∧ SzF ps ∧ ds = [encF ps] ∧ d = encF (wish ps)
def PnouD (ds : List PyData) (d : PyData) : Prop := ∃ (b : Nat) (ps : Fm), Rm b ps ∧ SzF ps ∧ ds = [encF ps] ∧ d = .bool (decide (wish ps = []))
def negF (q : Fm) : Fm := q.map fun x => (x.1, -x.2)
def PlessD (ds : List PyData) (d : PyData) : Prop := ∃ (b : Nat) (k : Bool) (p q : Fm), Rm b (p ++ negF q) ∧ ds = [encF p, dk k (q.map encF1)] ∧ d = encF (gath (p ++ negF q))
theorem encQ_neg (q : Rat) : encQ (-q) = .tuple [.int (-q.num), .int (q.den : Nat)] := by
  unfold encQ
  rw [Rat.neg_num, Rat.neg_den]
theorem eqv_nil (f : Fm) : PyData.eqv (encF f) (.tuple []) = decide (f = []) := by
  unfold encF
  cases f with
  | nil => simp [PyData.eqv, PyData.eqvAll]
  | cons a f => simp [PyData.eqv, PyData.eqvAll]
theorem cl_F (f : Fm) : (encF f).canLay0 = true := by unfold encF; rw [PyData.canLay0]; exact cl_map cl_F1 f
theorem sh_F (f : Fm) : SeqAt.shaped (encF f) = true := sh_of (cl_F f) (Nat.le_trans (dp_F f) (by decide))
end NB
end S_NbM3

section S_NbD3
set_option Elab.async false
set_option linter.all false
set_option maxRecDepth 100000
set_option maxHeartbeats 4000000
set_option exponentiation.threshold 100000
namespace NB
open PySem PySem.Spec PyProof.Rows L2
local macro_rules | `(tactic| walk_at "vd") => `(tactic| repeat' (first
  | exact vd_var rfl | exact vd_int | exact vd_bl | exact va_nil | exact vba_nil | exact vt_yes
  | with_reducible apply va_cons | with_reducible apply vt_test | with_reducible apply vt_not | with_reducible apply vt_B
  | with_reducible apply vd_tup | with_reducible apply vd_cb | with_reducible apply vd_op | with_reducible apply vd_un
  | exact rd_add | exact rd_ix0 rfl | exact rd_ix1 rfl | exact rd_I0 | exact rd_B0 | exact ru_I
  | exact rg_lenT | exact rg_lenL | exact rc_abs | exact rc_gcd
  | exact Nat.le_of_ble_eq_true rfl))
section
variable {P : Program} {w : World} {K : PySem.W.Frag} {mg : Str → Option Value} {base : Heap}
theorem sc_tuple_of : FnScope ["thing", "part"] ["thing"] (defScope (topS 4)) := ⟨rfl, rfl, rfl, by decide +kernel, rfl, by decide +kernel, by decide +kernel⟩
theorem cb_tuple_of1 {n : Nat} (W : Wd K mg) (c_tuple_of : Cb P w K mg base "tuple_of" n ["thing"] (spD K (PtupD n))) : Cb P w K mg base "tuple_of" (n + 1) ["thing"] (spD K (PtupD (n + 1))) := by
  refine mk_cb W 0 (i := 4) rfl sc_tuple_of (fun _ _ _ _ _ _ us hl => match us, hl with | [_], _ => rfl) (fun vs H Q E h => ?_) fun f cdv A outer s H vs Q E hr h => ⟨_, PSs.nox (
    (pss_cons (ps_if (pt_val (pe_callB (cr_isiTX (K := K) rfl) (by rfl) (W.free "isinstance") (by decide +kernel) (pa_cons (pv 0) (pa_cons (pe_tup (pa_cons (pe_bltn (v := .ty "list") (u := .type "list") rfl (W.free "list") (by decide +kernel) rfl) (pa_cons (pe_bltn (v := .ty "tuple") (u := .type "tuple") rfl (W.free "tuple") (by decide +kernel) rfl) pa_nil))) pa_nil)))) (pss_one (ps_ret (pe_callTy (cr_tupX (K := K) rfl) (by rfl) (W.free "tuple") (by decide +kernel) (pa_cons (pe_lc (own := [("part", 1)]) rfl sc_tuple_of.nd (pi_seqX (K := K) rfl (pv 0)) (blkOk_by (N := ["thing", "part"]) (sc := defScope (topS 4)) (by decide +kernel)) (fun _ _ _ _ _ => (pg_name (i := 1) sc_tuple_of.nd rfl (by first | exact Or.inl rfl | exact Or.inr rfl))) (fun _ _ _ _ _ => pts_nil) (fun _ _ _ _ _ => (pe_cb c_tuple_of (hr.mono (by omega)) rfl (pa_cons (pv 1) pa_nil)))) pa_nil)))) pss_nil)
  (pss_one (ps_ret (pv 0))))), body_D (F := As.emp) (fun ds d p => ?_) h⟩
  · obtain ⟨ds, d, p, hd, _⟩ := h
    rw [hd.len]
    obtain ⟨x, hx, hl, rfl, rfl⟩ := p
    rfl
  · obtain ⟨x, hx, hl, rfl, rfl⟩ := p
    have go : ∀ (k : Bool) (es : List PyData), x = dk k es → tupOf x = .tuple (es.map tupOf) ∧ es.length ≤ 100000 ∧ ∀ d ∈ es, d.depth < n ∧ lnk d = true := by
      intro k es e
      subst e
      cases k with
      | true =>
        have h2 : (decide (es.length ≤ 100000) && lnk.lnkA es) = true := hl
        rw [Bool.and_eq_true, lnkA_all, List.all_eq_true] at h2
        refine ⟨by show tupOf (.list es) = _; rw [tupOf, tupA_map], of_decide_eq_true h2.1, fun d hd => ⟨?_, h2.2 d hd⟩⟩
        have h3 : (PyData.list es).depth < n + 1 := hx
        have h4 := dep_in hd
        simp [PyData.depth] at h3
        omega
      | false =>
        have h2 : (decide (es.length ≤ 100000) && lnk.lnkA es) = true := hl
        rw [Bool.and_eq_true, lnkA_all, List.all_eq_true] at h2
        refine ⟨by show tupOf (.tuple es) = _; rw [tupOf, tupA_map], of_decide_eq_true h2.1, fun d hd => ⟨?_, h2.2 d hd⟩⟩
        have h3 : (PyData.tuple es).depth < n + 1 := hx
        have h4 := dep_in hd
        simp [PyData.depth] at h3
        omega
    by_cases h : ∃ k es, x = dk k es
    · obtain ⟨k, es, e⟩ := h
      obtain ⟨g1, g2, g3⟩ := go k es e
      rw [g1]
      subst e
      refine vs_seqR (vs_ifT ((vt_B (vd_isi2 (vd_var rfl))).is ?_) (vs_ret0 ?_))
      · cases k <;> rfl
      · refine vd_cb (va_cons (VN.dat (vn_lc (os := es.map tupOf) (vi_seqK (vb_var rfl)) (by rw [List.length_map]; exact g2) ?_)) va_nil) rg_tupL
        have := lc_map (K := K) (g := gName 1) (tt := tYes) (te := tCall (spD K (PtupD n)) [] E0 (tCons (tVar 1) tNil)) (vs := [1]) (env := enter ["thing", "part"] [dk k es]) (f := id) (h := tupOf) (xs := es) fun d hd => ⟨_, _, gd_name, by simp, vt_yes, ?_⟩
        · rw [List.map_id] at this
          exact this
        · exact vb_im (vd_call (va_cons (vd_var rfl) va_nil) ⟨d, (g3 d hd).1, (g3 d hd).2, rfl, rfl⟩) (im_tupOf d (g3 d hd).2)
    · have hn : ∀ k es, x ≠ dk k es := fun k es e => h ⟨k, es, e⟩
      have e1 : (isT x "list" || isT x "tuple") = false := by
        cases x with
        | list es => exact absurd rfl (hn true es)
        | tuple es => exact absurd rfl (hn false es)
        | _ => rfl
      have e2 : tupOf x = x := by
        cases x with
        | list es => exact absurd rfl (hn true es)
        | tuple es => exact absurd rfl (hn false es)
        | _ => rw [tupOf]
      rw [e2]
      exact vs_seq1 (vs_ifF ((vt_B (vd_isi2 (vd_var rfl))).is e1) vs_next) (vs_ret0 (vd_var rfl))

theorem cb_tuple_of (W : Wd K mg) : ∀ n, Cb P w K mg base "tuple_of" n ["thing"] (spD K (PtupD n))
  | 0 => cb_none W 0 (i := 4) rfl (fun _ _ _ _ _ _ us hl => match us, hl with | [_], _ => rfl) fun vs H Q E h => by
    obtain ⟨ds, d, ⟨x, hx, _⟩, _⟩ := h
    exact absurd hx (Nat.not_lt_zero _)
  | n + 1 => cb_tuple_of1 W (cb_tuple_of W n)

theorem sc_factors_of : FnScope ["powers", "own"] ["powers"] (defScope (topS 18)) := ⟨rfl, rfl, rfl, by decide +kernel, rfl, by decide +kernel, by decide +kernel⟩
theorem cb_factors_of (W : Wd K mg) : Cb P w K mg base "factors_of" 1 ["powers"] (spD K PfacD) := by
  refine mk_cb W 7 (i := 18) rfl sc_factors_of (fun _ _ _ _ _ _ us hl => match us, hl with | [_], _ => rfl) (fun vs H Q E h => ?_) fun f cdv A outer s H vs Q E hr h => ⟨_, PSs.nox (
    (pss_one (ps_ret (pe_callTy (cr_tupX (K := K) rfl) (by rfl) (W.free "tuple") (by decide +kernel) (pa_cons (pe_callB (cr_sortLX (K := K) rfl hr.units) (by rfl) (W.free "sorted") (by decide +kernel) (pa_cons (pe_lc (own := [("own", 1)]) rfl sc_factors_of.nd (pi_seqX (K := K) rfl (pv 0)) (blkOk_by (N := ["powers", "own"]) (sc := defScope (topS 18)) (by decide +kernel)) (fun _ _ _ _ _ => (pg_name (i := 1) sc_factors_of.nd rfl (by first | exact Or.inl rfl | exact Or.inr rfl))) (fun _ _ _ _ _ => (pts_one (pt_val (pe_callB (cr_anyX (K := K) rfl rfl) (by rfl) (W.free "any") (by decide +kernel) (pa_cons (pv 1) pa_nil))))) (fun _ _ _ _ _ => (pv 1))) pa_nil)) pa_nil))))), body_D (F := As.emp) (fun ds d p => ?_) h⟩
  · obtain ⟨ds, d, p, hd, _⟩ := h
    rw [hd.len]
    obtain ⟨k, p, hl, rfl, rfl⟩ := p
    rfl
  · obtain ⟨k, p, hl, rfl, rfl⟩ := p
    refine vs_ret0 ?_
    have l1 : (p.filter nz).length ≤ 100000 := Nat.le_trans (List.length_filter_le _ _) (by omega)
    refine VD.is (vd_cb (va_cons (VN.dat ((vn_cb (va_cons (VN.dat (vn_lc (os := (p.filter nz).map encM) (vi_seqK (vb_var rfl)) (by rw [List.length_map]; exact l1) (lc_filter fun m hm => ⟨_, _, gd_name, by simp, vt_B (vd_cb (va_cons (vd_var rfl) va_nil) rc_anyM), fun _ => vb_var rfl⟩))) va_nil) (rcn_sortL (sok_M l1))).is (sortD_map encM _))) va_nil) rg_tupL) rfl

theorem sc_law_factors : FnScope ["_law_powers_here", "_law_own"] ["_law_powers_here"] (defScope (topS 35)) := ⟨rfl, rfl, rfl, by decide +kernel, rfl, by decide +kernel, by decide +kernel⟩
theorem cb_law_factors (W : Wd K mg) : Cb P w K mg base "_law_factors" 1 ["_law_powers_here"] (spD K PfacD) := by
  refine mk_cb W 23 (i := 35) rfl sc_law_factors (fun _ _ _ _ _ _ us hl => match us, hl with | [_], _ => rfl) (fun vs H Q E h => ?_) fun f cdv A outer s H vs Q E hr h => ⟨_, PSs.nox (
    (pss_one (ps_ret (pe_callTy (cr_tupX (K := K) rfl) (by rfl) (W.free "tuple") (by decide +kernel) (pa_cons (pe_callB (cr_sortLX (K := K) rfl hr.units) (by rfl) (W.free "sorted") (by decide +kernel) (pa_cons (pe_lc (own := [("_law_own", 1)]) rfl sc_law_factors.nd (pi_seqX (K := K) rfl (pv 0)) (blkOk_by (N := ["_law_powers_here", "_law_own"]) (sc := defScope (topS 35)) (by decide +kernel)) (fun _ _ _ _ _ => (pg_name (i := 1) sc_law_factors.nd rfl (by first | exact Or.inl rfl | exact Or.inr rfl))) (fun _ _ _ _ _ => (pts_one (pt_cmpR op_gt (pe_callB (cr_sumX (K := K) rfl rfl) (by rfl) (W.free "sum") (by decide +kernel) (pa_cons (pv 1) pa_nil)) pe_int (nomark _)))) (fun _ _ _ _ _ => (pv 1))) pa_nil)) pa_nil))))), body_D (F := As.emp) (fun ds d p => ?_) h⟩
  · obtain ⟨ds, d, p, hd, _⟩ := h
    rw [hd.len]
    obtain ⟨k, p, hl, rfl, rfl⟩ := p
    rfl
  · obtain ⟨k, p, hl, rfl, rfl⟩ := p
    refine vs_ret0 ?_
    have l1 : (p.filter nz).length ≤ 100000 := Nat.le_trans (List.length_filter_le _ _) (by omega)
    refine VD.is (vd_cb (va_cons (VN.dat ((vn_cb (va_cons (VN.dat (vn_lc (os := (p.filter nz).map encM) (vi_seqK (vb_var rfl)) (by rw [List.length_map]; exact l1) (lc_filter fun m hm => ⟨_, _, gd_name, by simp, VT.is (vt_test (vd_op (vd_cb (va_cons (vd_var rfl) va_nil) rc_sumM) vd_int rd_B0)) (sum_nz m), fun _ => vb_var rfl⟩))) va_nil) (rcn_sortL (sok_M l1))).is (sortD_map encM _))) va_nil) rg_tupL) rfl

theorem sc_made_wish : FnScope ["pairs", "factors", "x"] ["pairs"] (defScope (topS 13)) := ⟨rfl, rfl, rfl, by decide +kernel, rfl, by decide +kernel, by decide +kernel⟩
theorem cb_made_wish (W : Wd K mg) (c_gathered_wish : Cb P w K mg base "gathered_wish" 3 ["pairs"] (spD K PgathD)) (c_tuple_of : Cb P w K mg base "tuple_of" 10 ["thing"] (spD K (PtupD 10))) : Cb P w K mg base "made_wish" 11 ["pairs"] (spD K PmadeD) := by
  refine mk_cb W 5 (i := 13) rfl sc_made_wish (fun _ _ _ _ _ _ us hl => match us, hl with | [_], _ => rfl) (fun vs H Q E h => ?_) fun f cdv A outer s H vs Q E hr h => ⟨_, PSs.nox (
    (pss_one (ps_ret (pe_cb c_gathered_wish (hr.mono (by omega)) rfl (pa_cons (pe_lc (own := [("factors", 1), ("x", 2)]) rfl sc_made_wish.nd (pi_tupX (K := K) rfl (pe_cb c_tuple_of (hr.mono (by omega)) rfl (pa_cons (pv 0) pa_nil))) (blkOk_by (N := ["pairs", "factors", "x"]) (sc := defScope (topS 13)) (by decide +kernel)) (fun _ _ _ _ _ => (pg_tupX (n := 2) (K := K) rfl rfl (pgs_cons (pg_name (i := 1) sc_made_wish.nd rfl (by first | exact Or.inl rfl | exact Or.inr rfl)) (pgs_cons (pg_name (i := 2) sc_made_wish.nd rfl (by first | exact Or.inl rfl | exact Or.inr rfl)) pgs_nil)))) (fun _ _ _ _ _ => pts_nil) (fun _ _ _ _ _ => (pe_tup (pa_cons (pe_callTy (cr_tupX (K := K) rfl) (by rfl) (W.free "tuple") (by decide +kernel) (pa_cons (pe_callB (cr_sortLX (K := K) rfl hr.units) (by rfl) (W.free "sorted") (by decide +kernel) (pa_cons (pv 1) pa_nil)) pa_nil)) (pa_cons (pv 2) pa_nil))))) pa_nil))))), body_D (F := As.emp) (fun ds d p => ?_) h⟩
  · obtain ⟨ds, d, p, hd, _⟩ := h
    rw [hd.len]
    obtain ⟨b, ps, x, hm, hs, hl, hd, ht, rfl, rfl⟩ := p
    rfl
  · obtain ⟨b, ps, x, hm, hs, hl, hd, ht, rfl, rfl⟩ := p
    refine vs_ret0 ?_
    have hm2 : Rm b (ps.map fun p => (srt encM p.1, p.2)) := hm.map (f := fun p => (srt encM p.1, p.2)) fun _ => rfl
    refine vd_call (P := PgathD) (ds := [.list ((ps.map fun p => (srt encM p.1, p.2)).map encF1)]) (va_cons (VN.dat ?_) va_nil) ⟨b, _, hm2.bd, hm2.m, hm2.l, hm2.b4, rfl, rfl⟩
    rw [List.map_map]
    refine vn_lc (ds := ps.map encF1) (vi_tupB (vb_im ((vd_call (va_cons (vd_var rfl) va_nil) ⟨x, by omega, hl, rfl, rfl⟩).is ht) (im_encF ps))) (by rw [List.length_map]; have := hm.l; omega) (lc_map fun y hy => ⟨_, _, gd_tup (gds_cons gd_name (gds_cons gd_name gds_nil)) rfl, by simp, vt_yes, ?_⟩)
    have hy1 := (hs.2 y hy).1
    refine vb_im (d := encF1 (srt encM y.1, y.2)) (vd_tup (va_cons ?_ (va_cons (vd_var rfl) va_nil)) (Nat.le_of_ble_eq_true rfl)) (im_encF1 _)
    exact vd_cb (va_cons (VN.dat ((vn_cb (va_cons (vd_var (d := .tuple (y.1.map encM)) rfl) va_nil) (rcn_sortT (sok_M (by omega)))).is (sortD_map encM _))) va_nil) rg_tupL

theorem szP_filter {p : Pw} (h : SzP p) (c : List Nat → Bool) : SzP (p.filter c) := ⟨Nat.le_trans (List.length_filter_le _ _) h.1, fun m hm => h.2 m ((List.mem_filter.mp hm).1)⟩
theorem szF_map {ps : Fm} {f : Pw × Rat → Pw × Rat} (h : SzF ps) (hf : ∀ x, SzP x.1 → SzP (f x).1) : SzF (ps.map f) := ⟨by rw [List.length_map]; exact h.1, fun y hy => by
  obtain ⟨x, hx, rfl⟩ := List.mem_map.mp hy
  exact hf x (h.2 x hx)⟩

theorem sc_wish_of : FnScope ["form", "own", "powers", "x"] ["form"] (defScope (topS 14)) := ⟨rfl, rfl, rfl, by decide +kernel, rfl, by decide +kernel, by decide +kernel⟩
theorem cb_wish_of (W : Wd K mg) (c_made_wish : Cb P w K mg base "made_wish" 11 ["pairs"] (spD K PmadeD)) (c_tuple_of : Cb P w K mg base "tuple_of" 10 ["thing"] (spD K (PtupD 10))) : Cb P w K mg base "wish_of" 12 ["form"] (spD K PwishD) := by
  refine mk_cb W 6 (i := 14) rfl sc_wish_of (fun _ _ _ _ _ _ us hl => match us, hl with | [_], _ => rfl) (fun vs H Q E h => ?_) fun f cdv A outer s H vs Q E hr h => ⟨_, PSs.nox (
    (pss_one (ps_ret (pe_cb c_made_wish (hr.mono (by omega)) rfl (pa_cons (pe_lc (own := [("powers", 2), ("x", 3)]) rfl sc_wish_of.nd (pi_tupX (K := K) rfl (pe_cb c_tuple_of (hr.mono (by omega)) rfl (pa_cons (pv 0) pa_nil))) (blkOk_by (N := ["form", "own", "powers", "x"]) (sc := defScope (topS 14)) (by decide +kernel)) (fun _ _ _ _ _ => (pg_tupX (n := 2) (K := K) rfl rfl (pgs_cons (pg_name (i := 2) sc_wish_of.nd rfl (by first | exact Or.inl rfl | exact Or.inr rfl)) (pgs_cons (pg_name (i := 3) sc_wish_of.nd rfl (by first | exact Or.inl rfl | exact Or.inr rfl)) pgs_nil)))) (fun _ _ _ _ _ => pts_nil) (fun _ _ _ _ _ => (pe_tup (pa_cons (pe_lc (own := [("own", 1)]) rfl sc_wish_of.nd (pi_seqX (K := K) rfl (pv 2)) (blkOk_by (by rfl)) (fun _ _ _ _ _ => (pg_name (i := 1) sc_wish_of.nd rfl (by first | exact Or.inl rfl | exact Or.inr rfl))) (fun _ _ _ _ _ => (pts_one (pt_val (pe_callB (cr_anyX (K := K) rfl rfl) (by rfl) (W.free "any") (by decide +kernel) (pa_cons (pv 1) pa_nil))))) (fun _ _ _ _ _ => (pv 1))) (pa_cons (pv 3) pa_nil))))) pa_nil))))), body_D (F := As.emp) (fun ds d p => ?_) h⟩
  · obtain ⟨ds, d, p, hd, _⟩ := h
    rw [hd.len]
    obtain ⟨b, ps, hm, hs, rfl, rfl⟩ := p
    rfl
  · obtain ⟨b, ps, hm, hs, rfl, rfl⟩ := p
    refine vs_ret0 ?_
    have hm2 : Rm b (ps.map fun p => (p.1.filter nz, p.2)) := hm.map (f := fun p => (p.1.filter nz, p.2)) fun _ => rfl
    have hs2 : SzF (ps.map fun p => (p.1.filter nz, p.2)) := szF_map (f := fun p => (p.1.filter nz, p.2)) hs fun x h => szP_filter h _
    have hl : ∀ y ∈ ps, (y.1.filter nz).length ≤ 100000 := fun y hy => Nat.le_trans (List.length_filter_le _ _) (by have := (hs.2 y hy).1; omega)
    let el := fun y : Pw × Rat => PyData.tuple [.list ((y.1.filter nz).map encM), encQ y.2]
    refine vd_call (P := PmadeD) (ds := [.list (ps.map el)]) (va_cons (VN.dat ?_) va_nil) ⟨b, _, .list (ps.map el), hm2, hs2, ?_, ?_, ?_, rfl, ?_⟩
    · refine vn_lc (ds := ps.map encF1) (vi_tupB (vb_im ((vd_call (va_cons (vd_var rfl) va_nil) ⟨encF ps, Nat.lt_of_le_of_lt (dp_F ps) (by decide), lnk_F hs, rfl, rfl⟩).is (tupOf_im _ (im_encF ps))) (im_encF ps))) (by rw [List.length_map]; have := hm.l; omega) (lc_map fun y hy => ⟨_, _, gd_tup (gds_cons gd_name (gds_cons gd_name gds_nil)) rfl, by simp, vt_yes, ?_⟩)
      refine vb_tup (vba_cons (vb_new (vn_lc (os := (y.1.filter nz).map encM) (vi_seqT (vb_var (d := .tuple (y.1.map encM)) rfl)) (by rw [List.length_map]; exact hl y hy) (lc_filter fun m hm => ⟨_, _, gd_name, by simp, vt_B (vd_cb (va_cons (vd_var rfl) va_nil) rc_anyM), fun _ => vb_var rfl⟩)) (imA_map _ im_encM _)) (vba_cons (vb_var rfl) vba_nil)) (Nat.le_of_ble_eq_true rfl)
    · refine lnk_lst (by rw [List.length_map]; have := hm.l; omega) (mem_map_all fun y hy => lnk_2 (lnk_lst (by rw [List.length_map]; exact hl y hy) (mem_map_all fun m hm => lnk_M ((hs.2 y hy).2 m ((List.mem_filter.mp hm).1)))) (lnk_Q _))
    · refine Nat.lt_of_le_of_lt (dep_lst (n := 4) (mem_map_all fun y hy => dep_tup (n := 3) fun d hd => ?_)) (by decide)
      rcases List.mem_cons.mp hd with rfl | hd
      · exact Nat.le_trans (dep_lst (n := 1) (mem_map_all fun m _ => dp_M m)) (by decide)
      · rw [List.mem_singleton.mp hd]; exact Nat.le_trans (dp_Q _) (by decide)
    · rw [tupOf, tupA_map, List.map_map]
      unfold encF
      rw [List.map_map]
      congr 1
      apply List.map_congr_left
      intro y hy
      show tupOf (el y) = encF1 (y.1.filter nz, y.2)
      show tupOf (.tuple [.list ((y.1.filter nz).map encM), encQ y.2]) = encF1 (y.1.filter nz, y.2)
      rw [tupOf, tupA, tupA, tupA, tupOf, tupA_im _ (imA_map _ im_encM _), tupOf_im (encQ y.2) rfl]
      rfl
    · unfold wish
      rw [List.map_map]
      rfl

theorem sc_is_nought : FnScope ["form"] ["form"] (defScope (topS 20)) := ⟨rfl, rfl, rfl, by decide +kernel, rfl, by decide +kernel, by decide +kernel⟩
theorem cb_is_nought (W : Wd K mg) (c_wish_of : Cb P w K mg base "wish_of" 12 ["form"] (spD K PwishD)) (c_tuple_of : Cb P w K mg base "tuple_of" 10 ["thing"] (spD K (PtupD 10))) : Cb P w K mg base "is_nought" 13 ["form"] (spD K PnouD) := by
  refine mk_cb W 9 (i := 20) rfl sc_is_nought (fun _ _ _ _ _ _ us hl => match us, hl with | [_], _ => rfl) (fun vs H Q E h => ?_) fun f cdv A outer s H vs Q E hr h => ⟨_, PSs.nox (
    (pss_one (ps_ret (pe_cmpR (op_eqX (K := K) rfl hr.units) (pe_cb c_wish_of (hr.mono (by omega)) rfl (pa_cons (pe_cb c_tuple_of (hr.mono (by omega)) rfl (pa_cons (pv 0) pa_nil)) pa_nil)) (pe_tup pa_nil) (nomark _))))), body_D (F := As.emp) (fun ds d p => ?_) h⟩
  · obtain ⟨ds, d, p, hd, _⟩ := h
    rw [hd.len]
    obtain ⟨b, ps, hm, hs, rfl, rfl⟩ := p
    rfl
  · obtain ⟨b, ps, hm, hs, rfl, rfl⟩ := p
    refine vs_ret0 ?_
    refine VD.is (vd_op (vd_call (P := PwishD) (va_cons ((vd_call (va_cons (vd_var rfl) va_nil) ⟨encF ps, Nat.lt_of_le_of_lt (dp_F ps) (by decide), lnk_F hs, rfl, rfl⟩).is (tupOf_im _ (im_encF ps))) va_nil) ⟨b, ps, hm, hs, rfl, rfl⟩) (vd_tup va_nil (Nat.le_of_ble_eq_true rfl)) (rd_eqD (sh_F _) rfl)) ?_
    rw [eqv_nil]

theorem sc_law_less : FnScope ["_law_one", "_law_two", "_law_own", "_law_bit"] ["_law_one", "_law_two"] (defScope (topS 34)) := ⟨rfl, rfl, rfl, by decide +kernel, rfl, by decide +kernel, by decide +kernel⟩
theorem cb_law_less (W : Wd K mg) (c__law_gathered : Cb P w K mg base "_law_gathered" 3 ["_law_pairs"] (spD K PgathD)) : Cb P w K mg base "_law_less" 4 ["_law_one", "_law_two"] (spD K PlessD) := by
  refine mk_cb W 22 (i := 34) rfl sc_law_less (fun _ _ _ _ _ _ us hl => match us, hl with | [_, _], _ => rfl) (fun vs H Q E h => ?_) fun f cdv A outer s H vs Q E hr h => ⟨_, PSs.nox (
    (pss_one (ps_ret (pe_cb c__law_gathered (hr.mono (by omega)) rfl (pa_cons (pe_op (op_addX (K := K) rfl) (pe_callTy (cr_listX (K := K) rfl) (by rfl) (W.free "list") (by decide +kernel) (pa_cons (pv 0) pa_nil)) (pe_lc (own := [("_law_own", 2), ("_law_bit", 3)]) rfl sc_law_less.nd (pi_seqX (K := K) rfl (pv 1)) (blkOk_by (N := ["_law_one", "_law_two", "_law_own", "_law_bit"]) (sc := defScope (topS 34)) (by decide +kernel)) (fun _ _ _ _ _ => (pg_tupX (n := 2) (K := K) rfl rfl (pgs_cons (pg_name (i := 2) sc_law_less.nd rfl (by first | exact Or.inl rfl | exact Or.inr rfl)) (pgs_cons (pg_name (i := 3) sc_law_less.nd rfl (by first | exact Or.inl rfl | exact Or.inr rfl)) pgs_nil)))) (fun _ _ _ _ _ => pts_nil) (fun _ _ _ _ _ => (pe_tup (pa_cons (pv 2) (pa_cons (pe_tup (pa_cons (pe_un un_neg (pe_ix (ix_seqX (K := K) rfl) (pv 3) pe_int (fun _ _ => rfl))) (pa_cons (pe_ix (ix_seqX (K := K) rfl) (pv 3) pe_int (fun _ _ => rfl)) pa_nil))) pa_nil)))))) pa_nil))))), body_D (F := As.emp) (fun ds d p => ?_) h⟩
  · obtain ⟨ds, d, p, hd, _⟩ := h
    rw [hd.len]
    obtain ⟨b, k, p, q, hm, rfl, rfl⟩ := p
    rfl
  · obtain ⟨b, k, p, q, hm, rfl, rfl⟩ := p
    refine vs_ret0 ?_
    have hl := hm.l
    have hq : (negF q).length = q.length := List.length_map _
    rw [List.length_append] at hl
    refine vd_call (P := PgathD) (ds := [.list ((p ++ negF q).map encF1)]) (va_cons ?_ va_nil) ⟨b, _, hm.bd, hm.m, hm.l, hm.b4, rfl, rfl⟩
    rw [List.map_append]
    refine vd_op (VN.dat (vn_cb (va_cons (vd_var (d := .tuple (p.map encF1)) rfl) va_nil) rg_listT)) (VN.dat ?_) (rd_catL (by rw [List.length_map, List.length_map]; omega))
    unfold negF
    rw [List.map_map]
    refine vn_lc (ds := q.map encF1) (vi_seqK (vb_var rfl)) (by rw [List.length_map]; omega) (lc_map fun y hy => ⟨_, _, gd_tup (gds_cons gd_name (gds_cons gd_name gds_nil)) rfl, by simp, vt_yes, ?_⟩)
    refine vb_im (d := encF1 (y.1, -y.2)) (vd_tup (va_cons (vd_var rfl) (va_cons ?_ va_nil)) (Nat.le_of_ble_eq_true rfl)) (im_encF1 _)
    rw [encQ_neg]
    walk_at "vd" 
end
end NB
end S_NbD3

section S_NbM4
set_option Elab.async false
set_option linter.all false
set_option maxRecDepth 100000
set_option maxHeartbeats 4000000
namespace NB
open PySem PySem.Spec PyProof.Rows L2 PySem.W

section
variable {K : PySem.W.Frag} {O : List Addr} {F : As} {env : List Sl} {g : L2.TG} {wi : TI} {tb : TS} {α : Type}
/-- for over rows of a type -/
theorem vs_forT {f : α → PyData} {xs : List α} (I : Nat → List Sl) (Fi : Nat → As) (hi : VI K wi env (xs.map f)) (h0 : Le env (I 0)) (hF : ∀ H, F.p H → (Fi 0).p H)
    (hs : ∀ i x, xs[i]? = some x → ∃ e2 is e3, GD K g (I i) (f x) e2 is ∧ VS K O (Fi i) tb e2 (.nx (· = e3) (Fi (i + 1))) ∧ Le e3 (I (i + 1))) : VS K O F (tFor wi g tb) env (.nx (· = I xs.length) (Fi xs.length)) := by
  have := vs_for (K := K) (O := O) (F := F) (g := g) (tb := tb) (fun i e => e = I i) Fi hi ⟨_, rfl, h0⟩ hF fun i d e hd he => by
    subst he
    rw [List.getElem?_map] at hd
    obtain ⟨x, hx, rfl⟩ := Option.map_eq_some_iff.mp hd
    obtain ⟨e2, is, e3, h1, h2, h3⟩ := hs i x hx
    exact ⟨e2, is, h1, h2.le (.nx (fun e he => ⟨_, rfl, by rw [he]; exact h3⟩) fun _ h => h)⟩
  rw [List.length_map] at this
  exact this
/-- nothing owned changes -/
theorem vs_forC {f : α → PyData} {xs : List α} (I : Nat → List Sl) (hi : VI K wi env (xs.map f)) (h0 : Le env (I 0))
    (hs : ∀ i x, xs[i]? = some x → ∃ e2 is e3, GD K g (I i) (f x) e2 is ∧ VS K O F tb e2 (.nx (· = e3) F) ∧ Le e3 (I (i + 1))) : VS K O F (tFor wi g tb) env (.nx (· = I xs.length) F) :=
  vs_forT I (fun _ => F) hi h0 (fun _ h => h) hs
end
theorem fold_take {α β : Type} (st : β → α → β) (b : β) (xs : List α) {i : Nat} {x : α} (h : xs[i]? = some x) : (xs.take (i + 1)).foldl st b = st ((xs.take i).foldl st b) x := by
  rw [List.take_add_one, h]
  simp
theorem zipD_map {α β : Type} (f : α → PyData) (g : β → PyData) : ∀ (xs : List α) (ys : List β), zipD (xs.map f) (ys.map g) = (xs.zip ys).map fun p => .tuple [f p.1, g p.2]
  | [], _ => by simp [zipD]
  | _ :: _, [] => by simp [zipD]
  | x :: xs, y :: ys => by
    show .tuple [f x, g y] :: zipD (xs.map f) (ys.map g) = _
    rw [zipD_map f g xs ys]; rfl
theorem mem_take {α : Type} {xs : List α} {i : Nat} {x : α} (h : x ∈ xs.take i) : x ∈ xs := List.mem_of_mem_take h

/-! ### numbers of rows -/
def numb (r : List Rat) (m : List Nat) : Rat := (r.zip m).foldl (fun a p => a * p.1 ^ p.2) 1
def worth (f : Fm) (rows : List (List Rat)) : Rat := f.foldl (fun t x => t + (rows.zip x.1).foldl (fun a p => a * numb p.1 p.2) x.2) 0
abbrev Spr : Type := List (List Rat × Rat)
def mn (sp : Spr) (m : List Nat) : Rat := sp.foldl (fun t x => t + x.2 * numb x.1 m) 0
def met (f : Fm) (sp : Spr) : Rat := f.foldl (fun t x => t + x.1.foldl (fun a m => a * mn sp m) x.2) 0
abbrev Drw : Type := List (List (List Rat) × Rat)
def dstep (sp : Spr) (d : Drw) : Drw := d.foldl (fun acc x => acc ++ sp.map fun y => (x.1 ++ [y.1], x.2 * y.2)) []
def drw (sp : Spr) : Nat → Drw
  | 0 => [([], 1)]
  | n + 1 => dstep sp (drw sp n)
def encD1 (x : List (List Rat) × Rat) : PyData := .tuple [.tuple (x.1.map encR), encQ x.2]
@[simp] theorem im_encD1 (x : List (List Rat) × Rat) : im (encD1 x) = true := by
  show (im (.tuple (x.1.map encR)) && (im (encQ x.2) && true)) = true
  rw [im_tupm _ im_encR, im_encQ]; rfl
theorem Bd.one (b : Nat) : Bd b 1 := ⟨Nat.one_le_two_pow, Nat.one_le_two_pow⟩
theorem Bd.pow {e : Nat} {x : Rat} (h : Bd e x) : ∀ n : Nat, Bd (e * n) (x ^ n)
  | 0 => by rw [Rat.pow_zero]; exact Bd.one _
  | n + 1 => by
    rw [Rat.pow_succ]
    exact (Bd.mul (Bd.pow h n) h).mono (by rw [Nat.mul_succ]; omega)
/-- the powers' sums -/
def zsum (l : List (Rat × Nat)) : Nat := (l.map (·.2)).sum
theorem sum_take_le : ∀ (l : List Nat) (i : Nat), (l.take i).sum ≤ l.sum
  | [], i => by simp
  | _ :: _, 0 => by simp
  | n :: l, i + 1 => by
    have := sum_take_le l i
    rw [List.take_succ_cons, List.sum_cons, List.sum_cons]; omega
theorem sum_take_succ : ∀ (l : List Nat) (i : Nat) (n : Nat), l[i]? = some n → (l.take (i + 1)).sum = (l.take i).sum + n
  | [], i, n, h => by simp at h
  | m :: l, 0, n, h => by simp at h; simp [h]
  | m :: l, i + 1, n, h => by
    rw [List.take_succ_cons, List.take_succ_cons, List.sum_cons, List.sum_cons, sum_take_succ l i n (by simpa using h)]; omega
theorem zip_snd_sum : ∀ (r : List Rat) (m : List Nat), ((r.zip m).map (·.2)).sum ≤ m.sum
  | [], m => by simp
  | _ :: _, [] => by simp
  | x :: r, n :: m => by
    have := zip_snd_sum r m
    simp only [List.zip_cons_cons, List.map_cons, List.sum_cons]
    omega
theorem fold_bd {e : Nat} : ∀ (l : List (Rat × Nat)) (a : Rat) (b : Nat), (∀ p ∈ l, Bd e p.1) → Bd b a → Bd (b + e * (l.map (·.2)).sum) (l.foldl (fun a p => a * p.1 ^ p.2) a)
  | [], a, b, _, h => by simpa using h
  | p :: l, a, b, hl, h => by
    rw [List.foldl_cons]
    have := fold_bd l (a * p.1 ^ p.2) (b + e * p.2) (fun q hq => hl q (List.mem_cons_of_mem _ hq)) (Bd.mul h ((hl p List.mem_cons_self).pow p.2))
    refine this.mono ?_
    rw [List.map_cons, List.sum_cons, Nat.mul_add]; omega
theorem numb_bd {e : Nat} {r : List Rat} {m : List Nat} (h : ∀ x ∈ r, Bd e x) : Bd (e * m.sum) (numb r m) := by
  have := fold_bd (r.zip m) 1 0 (fun p hp => h p.1 (List.of_mem_zip hp).1) (Bd.one 0)
  refine this.mono ?_
  rw [Nat.zero_add]
  exact Nat.mul_le_mul_left _ (zip_snd_sum r m)
def PnumD (ds : List PyData) (d : PyData) : Prop := ∃ (e : Nat) (r : List Rat) (m : List Nat), (∀ x ∈ r, Bd e x) ∧ e * m.sum + e ≤ 4000 ∧ m.sum ≤ 1000 ∧ ds = [encR r, encM m] ∧ d = encQ (numb r m)
/-- the sum of all powers -/
def psum (p : Pw) : Nat := (p.map List.sum).sum
theorem sum_le_psum {p : Pw} {m : List Nat} (h : m ∈ p) : m.sum ≤ psum p := by
  unfold psum
  induction p with
  | nil => cases h
  | cons a p ih =>
    rw [List.map_cons, List.sum_cons]
    rcases List.mem_cons.mp h with rfl | h
    · omega
    · have := ih h; omega
def PworD (ds : List PyData) (d : PyData) : Prop := ∃ (e b T : Nat) (k : Bool) (f : Fm) (rows : List (List Rat)), (∀ r ∈ rows, ∀ x ∈ r, Bd e x) ∧ BdF b f ∧ (∀ x ∈ f, psum x.1 ≤ T) ∧ (b + e * T + 1) * f.length ≤ 4000 ∧ b + e * T + e ≤ 4000 ∧ T ≤ 1000 ∧
  ds = [encF f, dk k (rows.map encR)] ∧ d = encQ (worth f rows)
theorem fold_bd2 {e : Nat} : ∀ (l : List (List Rat × List Nat)) (a : Rat) (b : Nat), (∀ p ∈ l, ∀ x ∈ p.1, Bd e x) → Bd b a → Bd (b + e * (l.map fun p => p.2.sum).sum) (l.foldl (fun a p => a * numb p.1 p.2) a)
  | [], a, b, _, h => by simpa using h
  | p :: l, a, b, hl, h => by
    rw [List.foldl_cons]
    have := fold_bd2 l (a * numb p.1 p.2) (b + e * p.2.sum) (fun q hq => hl q (List.mem_cons_of_mem _ hq)) (Bd.mul h (numb_bd (hl p List.mem_cons_self)))
    refine this.mono ?_
    rw [List.map_cons, List.sum_cons, Nat.mul_add]; omega
theorem zip_psum : ∀ (rows : List (List Rat)) (p : Pw), ((rows.zip p).map fun q => q.2.sum).sum ≤ psum p
  | [], p => by simp
  | _ :: _, [] => by simp
  | r :: rows, m :: p => by
    have := zip_psum rows p
    unfold psum at this ⊢
    simp only [List.zip_cons_cons, List.map_cons, List.sum_cons]
    omega
theorem take_psum (l : List (List Rat × List Nat)) (i : Nat) : ((l.take i).map fun q => q.2.sum).sum ≤ (l.map fun q => q.2.sum).sum := by
  rw [List.map_take]
  exact sum_take_le _ _
theorem wsum_bd {B : Nat} : ∀ (l : List Rat) (t : Rat) (c : Nat), (∀ x ∈ l, Bd B x) → Bd c t → Bd (c + (B + 1) * l.length) (l.foldl (· + ·) t)
  | [], t, c, _, h => by simpa using h
  | x :: l, t, c, hl, h => by
    rw [List.foldl_cons]
    have := wsum_bd l (t + x) (c + B + 1) (fun y hy => hl y (List.mem_cons_of_mem _ hy)) (Bd.add h (hl x List.mem_cons_self))
    refine this.mono ?_
    rw [List.length_cons, Nat.mul_succ]; omega
/-- sums by a fold -/
theorem fold_map {α : Type} (h : α → Rat) : ∀ (l : List α) (t : Rat), l.foldl (fun t x => t + h x) t = (l.map h).foldl (· + ·) t
  | [], _ => rfl
  | x :: l, t => by rw [List.foldl_cons, List.map_cons, List.foldl_cons, fold_map h l]
theorem sum_bd {α : Type} {B : Nat} {h : α → Rat} {l : List α} (hb : ∀ x ∈ l, Bd B (h x)) (i : Nat) : Bd ((B + 1) * l.length) ((l.take i).foldl (fun t x => t + h x) 0) := by
  rw [fold_map]
  have := wsum_bd ((l.take i).map h) 0 0 (fun y hy => by
    obtain ⟨x, hx, rfl⟩ := List.mem_map.mp hy
    exact hb x (mem_take hx)) (Bd.zero 0)
  refine this.mono ?_
  rw [Nat.zero_add, List.length_map, List.length_take]
  exact Nat.mul_le_mul_left _ (Nat.min_le_right _ _)
/-- the means -/
def PmetD (ds : List PyData) (d : PyData) : Prop := ∃ (e b c T M : Nat) (f : Fm) (sp : Spr), (∀ x ∈ sp, Bd c x.2 ∧ ∀ y ∈ x.1, Bd e y) ∧ BdF b f ∧ (∀ x ∈ f, ∀ m ∈ x.1, m.sum ≤ T) ∧ (c + e * T + 1) * sp.length ≤ M ∧ (∀ x ∈ f, x.1.length ≤ 3) ∧ (b + M * 3 + 1) * f.length ≤ 4000 ∧ b + M * 3 ≤ 4000 ∧ T ≤ 1000 ∧ e * T + e ≤ 4000 ∧ c + e * T ≤ 4000 ∧ M ≤ 4000 ∧
  ds = [encF f, encSp sp] ∧ d = encQ (met f sp)
theorem mn_bd {e c T M : Nat} {sp : Spr} {m : List Nat} (hs : ∀ x ∈ sp, Bd c x.2 ∧ ∀ y ∈ x.1, Bd e y) (hm : m.sum ≤ T) (hM : (c + e * T + 1) * sp.length ≤ M) (i : Nat) : Bd M ((sp.take i).foldl (fun t x => t + x.2 * numb x.1 m) 0) :=
  (sum_bd (B := c + e * T) (h := fun x : List Rat × Rat => x.2 * numb x.1 m) (fun x hx => (Bd.mul (hs x hx).1 (numb_bd (hs x hx).2)).mono (by have := Nat.mul_le_mul_left e hm; omega)) i).mono hM
theorem fold_bd3 {M : Nat} {h : List Nat → Rat} : ∀ (l : Pw) (a : Rat) (b : Nat), (∀ m ∈ l, Bd M (h m)) → Bd b a → Bd (b + M * l.length) (l.foldl (fun a m => a * h m) a)
  | [], a, b, _, q => by simpa using q
  | m :: l, a, b, hl, q => by
    rw [List.foldl_cons]
    have := fold_bd3 l (a * h m) (b + M) (fun x hx => hl x (List.mem_cons_of_mem _ hx)) (Bd.mul q (hl m List.mem_cons_self))
    refine this.mono ?_
    rw [List.length_cons, Nat.mul_succ]; omega
/-- all drawings -/
def PdrwD (ds : List PyData) (d : PyData) : Prop := ∃ (c : Nat) (n : Nat) (sp : Spr), (∀ x ∈ sp, Bd c x.2) ∧ c * n ≤ 4000 ∧ c ≤ 4000 ∧ sp.length ≤ 10 ∧ n ≤ 3 ∧ ds = [encSp sp, .int (n : Nat)] ∧ d = .list ((drw sp n).map encD1)
theorem dstep_len (sp : Spr) : ∀ (d acc : Drw), (d.foldl (fun acc x => acc ++ sp.map fun y => (x.1 ++ [y.1], x.2 * y.2)) acc).length = acc.length + d.length * sp.length
  | [], acc => by simp
  | x :: d, acc => by
    rw [List.foldl_cons, dstep_len sp d, List.length_append, List.length_map, List.length_cons, Nat.succ_mul]; omega
theorem drw_len {sp : Spr} : ∀ n, (drw sp n).length = sp.length ^ n
  | 0 => rfl
  | n + 1 => by
    show (dstep sp (drw sp n)).length = _
    unfold dstep
    rw [dstep_len, drw_len n, Nat.pow_succ]
    simp
theorem drw_mem {sp : Spr} {d : Drw} {z : List (List Rat) × Rat} (h : z ∈ dstep sp d) : ∃ x ∈ d, ∃ y ∈ sp, z = (x.1 ++ [y.1], x.2 * y.2) := by
  have : ∀ (d acc : Drw), z ∈ d.foldl (fun acc x => acc ++ sp.map fun y => (x.1 ++ [y.1], x.2 * y.2)) acc → z ∈ acc ∨ ∃ x ∈ d, ∃ y ∈ sp, z = (x.1 ++ [y.1], x.2 * y.2) := by
    intro d
    induction d with
    | nil => intro acc h; exact .inl h
    | cons x d ih =>
      intro acc h
      rw [List.foldl_cons] at h
      rcases ih _ h with h | ⟨x', hx, r⟩
      · rcases List.mem_append.mp h with h | h
        · exact .inl h
        · obtain ⟨y, hy, e⟩ := List.mem_map.mp h
          exact .inr ⟨x, List.mem_cons_self, y, hy, e.symm⟩
      · exact .inr ⟨x', List.mem_cons_of_mem _ hx, r⟩
  rcases this d [] h with h | h
  · cases h
  · exact h
theorem drw_bd {c : Nat} {sp : Spr} (hs : ∀ x ∈ sp, Bd c x.2) : ∀ n, ∀ x ∈ drw sp n, Bd (c * n) x.2 ∧ x.1.length = n
  | 0, x, h => by
    have : x = ([], 1) := List.mem_singleton.mp h
    subst this
    exact ⟨Bd.one _, rfl⟩
  | n + 1, x, h => by
    obtain ⟨y, hy, z, hz, rfl⟩ := drw_mem h
    obtain ⟨h1, h2⟩ := drw_bd hs n y hy
    refine ⟨(Bd.mul h1 (hs z hz)).mono (by rw [Nat.mul_succ]; omega), by rw [List.length_append, h2]; rfl⟩
end NB
end S_NbM4

section S_NbU
set_option Elab.async false
set_option linter.all false
set_option maxRecDepth 100000
set_option maxHeartbeats 4000000
namespace NB
open PySem PySem.Spec PyProof.Rows L2 PySem.W
open Evl (Ex)

/-! ### values known in the state -/
def VZ (K : PySem.W.Frag) (O : List Addr) (te : TE) (env : List Sl) (d : PyData) : Prop := ∀ F σ H, Zs K O F env σ H → ∀ Q : VK, (∀ v H2, Ex H H2 → Dt K (Bs H2 O) v d → Q v H2) → te σ H Q
def VIZ (K : PySem.W.Frag) (O : List Addr) (wi : TI) (env : List Sl) (ds : List PyData) : Prop := ∀ F σ H, Zs K O F env σ H → ∀ R : It → Hp → Prop, (∀ J H2, Ex H H2 → WkD K J ds (Bs H2 O) → R J H2) → wi σ H R
def VI0 (K : PySem.W.Frag) (wi : TI) (env : List Sl) (ds : List PyData) : Prop := ∀ σ B, Sg K B σ env → ∀ H1, Ex B H1 → ∀ R : It → Hp → Prop, (∀ J H2, Ex H1 H2 → WkD K J ds H2 → R J H2) → wi σ H1 R
section
variable {K : PySem.W.Frag} {O : List Addr} {F F1 F2 G : As} {env env' : List Sl} {t u : TS} {te tf : TE} {g : L2.TG} {wi : TI} {r r' : Rs} {d : PyData} {ds es : List PyData} {is : List Nat}
theorem VB.z (h : VB K te env d) : VZ K O te env d := fun F σ H z Q q => h σ _ z.sg H (Bs_sub _ _) Q fun v H2 e2 hv => q v H2 e2 (hv _ (z.bok e2))
theorem VD.z (h : VD K te env d) : VZ K [] te env d := fun F σ H z Q q => h σ H z.s H (Ex.refl _) Q fun v H2 e2 hv => q v H2 e2 (by rw [Bs_nil]; exact hv)
theorem VI.z (h : VI K wi env ds) : VIZ K O wi env ds := fun F σ H z R q => h σ _ z.sg H (Bs_sub _ _) R fun J H2 e2 hw => q J H2 e2 (hw _ (z.bok e2))
theorem VI.v0 (h : VI K wi env ds) : VI0 K wi env ds := fun σ B s H1 e R q => h σ B s H1 e R fun J H2 e2 hw => q J H2 e2 (hw H2 (Bok.all e e2))
theorem viz_seqL (h : VZ K O te env (.list ds)) : VIZ K O (iSeq K te) env ds := fun F σ H z R q => h F σ H z _ fun v H2 e2 hv => by
  obtain ⟨a, xs, rfl, h1, h2⟩ := dt_lst hv
  exact ⟨a, rfl, .inl ⟨⟨xs, SqL.of (Bs_sub _ _ _ _ h1)⟩, q _ H2 e2 (wk_lst h1 h2)⟩⟩
theorem viz_seqT (h : VZ K O te env (.tuple ds)) : VIZ K O (iSeq K te) env ds := fun F σ H z R q => h F σ H z _ fun v H2 e2 hv => by
  obtain ⟨a, xs, rfl, h1, h2⟩ := dt_tup hv
  exact ⟨a, rfl, .inr ⟨⟨xs, (Bs_sub _ _).sqt h1⟩, q _ H2 e2 (wk_tup h1 h2)⟩⟩
theorem vi0_seqL (h : VD K te env (.list ds)) : VI0 K (iSeq K te) env ds := fun σ B s H1 e R q => h σ B s H1 e _ fun v H2 e2 hv => by
  obtain ⟨a, xs, rfl, h1, h2⟩ := dt_lst hv
  exact ⟨a, rfl, .inl ⟨⟨xs, SqL.of h1⟩, q _ H2 e2 (wk_lst h1 h2)⟩⟩
theorem vs_asgZ (h : VZ K O te env d) (hg : GD K g env d env' is) : VS K O F (tAsg te g) env (.nx (· = env') F) := fun D σ H z q =>
  h F σ H z _ fun v H2 e2 hv => by
    have z2 := z.ex e2
    exact hg _ σ v H2 z2.sg (Bs_sub _ _) hv _ fun σ' s' _ => q env' σ' H2 rfl (XO.of e2) ⟨z2.own, s', z2.as⟩
theorem vs_retZ (h : VZ K O te env d) : VS K O F (tRet te) env (.rt (· = d) F) := fun D σ H z q =>
  h F σ H z _ fun v H2 e2 hv => q v d H2 rfl (XO.of e2) (As.ex_ e2 z.as) hv
theorem vs_forZ {tb : TS} (I : Nat → List Sl → Prop) (Fi : Nat → As) (hi : VIZ K O wi env ds) (h0 : ∃ e, I 0 e ∧ Le env e) (hF : ∀ H, F.p H → (Fi 0).p H)
    (hs : ∀ i d e, ds[i]? = some d → I i e → ∃ e2 is, GD K g e d e2 is ∧ VS K O (Fi i) tb e2 (.nx (I (i + 1)) (Fi (i + 1)))) : VS K O F (tFor wi g tb) env (.nx (I ds.length) (Fi ds.length)) := fun D σ H z q =>
  hi F σ H z _ fun J H2 e2 w => by
    have z2 := z.ex e2
    refine for_it w (fun i σ' H' => XO O H2 H' ∧ ∃ e, I i e ∧ Zs K O (Fi i) e σ' H') ⟨XO.refl _ _, ?_⟩ (fun i σ' H' _ p => Ex.trans p.1 (Bs_sub _ _)) (fun i x σ' H1 H1' hi' p y => ?_) (fun σ' H' p => ?_)
    · obtain ⟨e, i0, l⟩ := h0
      exact ⟨e, i0, z2.own, z2.sg.le l, hF _ z2.as⟩
    · obtain ⟨p1, e, pe, pz⟩ := p
      obtain ⟨y1, d, y2, y3⟩ := y
      obtain ⟨ee, is, g1, g2⟩ := hs i d e y2 pe
      have pz' := pz.ex y1
      refine g1 _ σ' x H1' pz'.sg (Bs_sub _ _) (y3 _ (Ex.trans p1 (Bs_mono y1)) (pz.bok y1).new) _ fun σ2 s2 _ => ?_
      exact g2 _ σ2 H1' ⟨pz'.own, s2, pz'.as⟩ fun env' σ'' H'' i' x' z' => ⟨(p1.trans (XO.of y1)).trans x', env', i', z'⟩
    · obtain ⟨p1, e, pe, pz⟩ := p
      exact q e σ' H' pe ((XO.of e2).trans p1) pz
theorem vs_forTZ {α : Type} {tb : TS} {f : α → PyData} {xs : List α} (I : Nat → List Sl) (Fi : Nat → As) (hi : VIZ K O wi env (xs.map f)) (h0 : Le env (I 0)) (hF : ∀ H, F.p H → (Fi 0).p H)
    (hs : ∀ i x, xs[i]? = some x → ∃ e2 is e3, GD K g (I i) (f x) e2 is ∧ VS K O (Fi i) tb e2 (.nx (· = e3) (Fi (i + 1))) ∧ Le e3 (I (i + 1))) : VS K O F (tFor wi g tb) env (.nx (· = I xs.length) (Fi xs.length)) := by
  have := vs_forZ (K := K) (O := O) (F := F) (g := g) (tb := tb) (fun i e => e = I i) Fi hi ⟨_, rfl, h0⟩ hF fun i d e hd he => by
    subst he
    rw [List.getElem?_map] at hd
    obtain ⟨x, hx, rfl⟩ := Option.map_eq_some_iff.mp hd
    obtain ⟨e2, is, e3, h1, h2, h3⟩ := hs i x hx
    exact ⟨e2, is, h1, h2.le (.nx (fun e he => ⟨_, rfl, by rw [he]; exact h3⟩) fun _ h => h)⟩
  rw [List.length_map] at this
  exact this
/-- a list and a list, new -/
theorem vn_cat (h1 : VD K te env (.list ds)) (h2 : VD K tf env (.list es)) (hl : ds.length + es.length ≤ 100000) : VN K (tOp (rAddG K) te tf) env (ds ++ es) := fun σ B s H1 e Q q =>
  h1 σ B s H1 e _ fun x H2 e2 hx => h2 σ B s H2 (e.trans e2) _ fun y H3 e3 hy => by
    obtain ⟨p, xs, rfl, hp, hxs⟩ := dt_lst (Dt.ex e3 _ _ hx)
    obtain ⟨p2, ys, rfl, hp2, hys⟩ := dt_lst hy
    exact .inr (.inl ⟨p, p2, xs, ys, rfl, rfl, hp, hp2, by rw [hxs.len, hys.len]; exact Nat.le_trans hl (by decide), fun z hz => q z _ _ ((e2.trans e3).back hz) ((e2.trans e3).trans (Ex.new hz)) upd_same (DtA.ex (Ex.new hz) _ _ (hxs.app hys))⟩)
theorem vn_rep {n : Nat} (h1 : VD K te env (.list ds)) (h2 : VD K tf env (.int (n : Nat))) (hn : n ≤ 1000) (hl : ds.length ≤ 100) : VN K (tOp (rMulG K) te tf) env (List.replicate n ds).flatten := fun σ B s H1 e Q q =>
  h1 σ B s H1 e _ fun x H2 e2 hx => h2 σ B s H2 (e.trans e2) _ fun y H3 e3 hy => by
    obtain ⟨p, xs, rfl, hp, hxs⟩ := dt_lst (Dt.ex e3 _ _ hx)
    rw [dt_int hy]
    have hn2 : ((n : Nat) : Int).toNat = n := by simp
    refine .inr (.inr (.inl ⟨p, (n : Nat), xs, rfl, rfl, hp, by omega, by omega, ?_, fun z hz => q z _ _ ((e2.trans e3).back hz) ((e2.trans e3).trans (Ex.new hz)) upd_same (DtA.ex (Ex.new hz) _ _ ?_)⟩))
    · rw [hn2, hxs.len]
      exact Nat.le_trans (Nat.mul_le_mul hl hn) (by decide)
    · rw [hn2]
      clear hn2 hy q h2 hn
      induction n with
      | zero => exact .nil
      | succ n ih => rw [List.replicate_succ, List.replicate_succ, List.flatten_cons, List.flatten_cons]; exact hxs.app ih
/-- a new list that is filled by t, then only read -/
theorem vs_newLR {i : Nat} {env2 : List Sl} (m : imA ds = true) (m2 : imA es = true) (h : VN K te env ds)
    (ht : ∀ a, a ∉ O → VS K (a :: O) (F.and (.lst K a ds m)) t (env.set i (.v (.ref a))) (.nx (· = env2.set i (.v (.ref a))) (F2.and (.lst K a es m2)))) (hi : i < env2.length)
    (hu : VS K O F2 u (env2.set i (.d (.list es))) r) : VS K O F (tSeq (tAsg te (gName i)) (tSeq t u)) env r := fun D σ H z q =>
  h σ H z.s H (Ex.refl _) _ fun p xs H2 hp e2 hx hd => by
    have z2 := z.ex e2
    have np := z.fresh hp
    have x2 : Ex (Bs H O) (Bs H2 (p :: O)) := Bs_in ((Bs_sub H O).trans e2) fun b mb => by
      rcases List.mem_cons.mp mb with w | w
      · subst w
        cases q : Bs H O b with
        | none => rfl
        | some u => rw [Bs_sub H O b u q] at hp; cases hp
      · exact Bs_none w
    refine ht p np _ _ H2 ⟨fun b mb => ?_, (z.sg.ex x2).setV i, As.ex_ e2 z.as, xs, hx, hd⟩ fun env' σ' H' he x z' => ?_
    · rcases List.mem_cons.mp mb with w | w
      · subst w; exact ⟨_, hx, trivial⟩
      · exact z2.own b w
    · subst he
      obtain ⟨f2, ys, hy, hdy⟩ := z'.as
      have ow : ∀ b ∈ O, ∃ o, H' b = some o ∧ MutT (some o) := fun b mb => z'.own b (List.mem_cons_of_mem _ mb)
      have tk : Tk H' (Bs H' O) := fun b v nv hb => by
        rw [Bs_out, hb]
        intro mb
        obtain ⟨o, g1, g2⟩ := ow b mb
        rw [g1] at hb; cases hb; exact nv g2
      have sv := z'.sg.getV (i := i) (v := .ref p) (by rw [List.getElem?_set_self hi])
      have s3 : Sg K (Bs H' O) σ' ((env2.set i (.v (.ref p))).set i (.d (.list es))) := (z'.sg.ex (Bs_cons _ _ _)).at (x := .d (.list es)) ⟨_, rfl, .lst (by rw [Bs_out np]; exact hy) (DtA.tk tk _ _ m2 hdy)⟩ sv
      rw [List.set_set] at s3
      exact hu D σ' H' ⟨ow, s3, f2⟩ (Rs.ok_mono (x.less hp e2) q)
end
/-- a comprehension that walks a value -/
theorem vn_lc0 {K : PySem.W.Frag} {env : List Sl} {ds : List PyData} {wi : TI} {g : L2.TG} {tt : TT} {te : TE} {vs : List Nat} {os : List PyData} (hi : VI0 K wi env ds) (hz : os.length ≤ 100000) (h : Lc K g tt te vs env ds os) : VN K (tLc wi g tt te vs) env os := fun σ B s H1 e Q q => by
  obtain ⟨n, n0, nl, nm, nn⟩ := h.at
  refine hi σ B s H1 e _ fun J H2 e2 w D hD => ?_
  refine lc_it w (fun i H => Ex H2 H ∧ ∃ acc, H D = some (.lst acc) ∧ DtA K (er H D) acc (os.take (n i))) ⟨Ex.new hD, [], upd_same, by rw [n0]; exact .nil⟩ (fun i H _ p => p.1) (fun i x H H' hi p y => ?_) (fun H p => ?_)
  · obtain ⟨p1, acc, p2, p3⟩ := p
    obtain ⟨y1, d, y2, y3⟩ := y
    obtain ⟨env', is, g1, g2, g3⟩ := nn i d y2
    have p12 : Ex H2 H' := p1.trans y1
    have hb : Ex H2 (er H' D) := er_in p12 hD
    have s' : Sg K (er H' D) (L2.wipe σ vs) (ew env vs) := (s.ex ((e.trans e2).trans hb)).wipe vs
    have hx : Dt K (er H' D) x d := y3 _ hb fun a o h1 h2 => by
      unfold er
      rw [if_neg, h2]
      intro z
      subst z
      rw [p2] at h1
      cases h1
    refine g1 (er H' D) _ x H' s' (er_sub _ _) hx _ fun σ2 s2 w2 => ⟨?_, ?_⟩
    · rw [w2 vs g2]
      exact wipe_wipe σ vs
    · rcases g3 with ⟨g3, o, g4, g5, g6⟩ | ⟨g3, g4⟩
      · refine g3 σ2 _ s2 H' (er_sub _ _) _ fun H3 e3 => ?_
        show te σ2 H3 _
        have hl3 : H3 D = some (.lst acc) := e3 _ _ (y1 _ _ p2)
        refine g5 σ2 _ s2 H3 ((er_sub _ _).trans e3) _ fun v H4 e4 hv => ?_
        have hl4 : H4 D = some (.lst acc) := e4 _ _ hl3
        have hv' : Dt K (er H4 D) v o := hv _ (er_bok (er_mono e3) hl3 trivial e4)
        have p3' : DtA K (er H4 D) acc (os.take (n i)) := DtA.ex (er_mono ((y1.trans e3).trans e4)) _ _ p3
        refine ⟨acc, hl4, ?_, Ex.mut (p12.trans (e3.trans e4)) hD, _, upd_same, ?_⟩
        · have := p3.len
          rw [List.length_take] at this
          exact Nat.lt_of_le_of_lt (by omega : acc.length ≤ 100000) (by decide)
        · rw [g6]
          exact DtA.ex er_upd' _ _ (p3'.snoc g4 hv')
      · exact g3 σ2 _ s2 H' (er_sub _ _) _ fun H3 e3 => ⟨p12.trans e3, acc, e3 _ _ (y1 _ _ p2), by rw [g4]; exact DtA.ex (er_mono (y1.trans e3)) _ _ p3⟩
  · obtain ⟨p1, acc, p2, p3⟩ := p
    rw [nl, List.take_length] at p3
    exact q D acc H (e2.back hD) (e2.trans p1) p2 (DtA.ex (er_sub _ _) _ _ p3)

/-! ### promises of lists that are values -/
def As.keep (H : Hp) (O : List Addr) : As := ⟨fun H' => ∀ a ∈ O, ∀ o, H a = some o → H' a = some o, fun H1 H2 e h a m o q => e a o (h a m o q)⟩
theorem As.off_keep {H : Hp} {O : List Addr} {a : Addr} (h : a ∉ O) : (As.keep H O).Off a := fun H1 H2 k t p b m o q => by
  rw [k b (fun e => h (e ▸ m))]; exact p b m o q
def spO (K : PySem.W.Frag) (P : List PyData → PyData → Prop) : Sp := fun vs H Q _ => ∃ (O : List Addr) (ds : List PyData) (d : PyData), P ds d ∧ (∀ a ∈ O, ∃ o, H a = some o ∧ MutT (some o)) ∧ DtA K (Bs H O) vs ds ∧ ∀ v H', Ex H H' → Dt K (Bs H' O) v d → Q v H'
section
variable {K : PySem.W.Frag} {O : List Addr} {env : List Sl} {ta : TA} {ds es : List PyData} {d : PyData} {E : XK} {P : List PyData → PyData → Prop}
theorem vd_callO (h : VA K ta env ds) (p : P ds d) : VD K (tCall (spO K P) [] E ta) env d := fun σ B s H1 e Q q => h σ B s H1 e _ fun vs H2 e2 hv => by
  rw [List.append_nil]
  exact ⟨[], ds, d, p, fun a m => (by cases m), by rw [Bs_nil]; exact hv, fun v H3 e3 h3 => q v H3 (e2.trans e3) (by rw [Bs_nil] at h3; exact h3)⟩
theorem vz_callO (h : VBA K ta env ds) (p : P ds d) : VZ K O (tCall (spO K P) [] E ta) env d := fun F σ H z Q q => h σ _ z.sg H (Bs_sub _ _) _ fun vs H2 e2 hv => by
  rw [List.append_nil]
  exact ⟨O, ds, d, p, (z.ex e2).own, hv _ (z.bok e2), fun v H3 e3 h3 => q v H3 (e2.trans e3) h3⟩
theorem body_O {N : List Str} {t : TS} {vs : List V} {H : Hp} {Q : VK} (hb : ∀ O F ds d, P ds d → VS K O F t (enter N ds) (.rt (· = d) F)) (h : spO K P vs H Q E) : t { nx := fun _ H' => Q .non H', rt := Q } (L2.start N vs) H := by
  obtain ⟨O, ds, d, p, ow, hd, q⟩ := h
  refine hb O (As.keep H O) ds d p _ _ H ⟨ow, Sg.start hd, fun a m o q => q⟩ fun v d' H' e x f hv => ?_
  subst e
  refine q v H' (fun a o h => ?_) hv
  by_cases m : a ∈ O
  · exact f a m o h
  · exact x.at m h
end
end NB
end S_NbU

section S_NbD4
set_option Elab.async false
set_option linter.all false
set_option maxRecDepth 100000
set_option maxHeartbeats 4000000
set_option exponentiation.threshold 100000
namespace NB
open PySem PySem.Spec PyProof.Rows L2
local macro_rules | `(tactic| walk_at "vd") => `(tactic| repeat' (first
  | exact vd_var rfl | exact vd_int | exact vd_bl | exact va_nil | exact vba_nil | exact vt_yes
  | with_reducible apply va_cons | with_reducible apply vt_test | with_reducible apply vt_not | with_reducible apply vt_B
  | with_reducible apply vd_tup | with_reducible apply vd_cb | with_reducible apply vd_op | with_reducible apply vd_un
  | exact rd_add | exact rd_ix0 rfl | exact rd_ix1 rfl | exact rd_I0 | exact rd_B0 | exact ru_I
  | exact rg_lenT | exact rg_lenL | exact rc_abs | exact rc_gcd
  | exact Nat.le_of_ble_eq_true rfl))
local macro_rules | `(tactic| walk_at "le") => `(tactic| repeat (first | exact Le.nil | apply Le.same | apply Le.drop))
section
variable {P : Program} {w : World} {K : PySem.W.Frag} {mg : Str → Option Value} {base : Heap}
theorem sc_law_number : FnScope ["_law_row", "_law_own", "_law_found", "_law_x", "_law_power", "_law_lap"] ["_law_row", "_law_own"] (defScope (topS 36)) := ⟨rfl, rfl, rfl, by decide +kernel, rfl, by decide +kernel, by decide +kernel⟩
theorem cb_law_number (W : Wd K mg) (c__law_mul : Cb P w K mg base "_law_mul" 2 ["_law_one", "_law_two"] (spD K PmulD)) : Cb P w K mg base "_law_number" 3 ["_law_row", "_law_own"] (spD K PnumD) := by
  refine mk_cb W 24 (i := 36) rfl sc_law_number (fun _ _ _ _ _ _ us hl => match us, hl with | [_, _], _ => rfl) (fun vs H Q E h => ?_) fun f cdv A outer s H vs Q E hr h => ⟨_, PSs.nox (
    (pss_cons (ps_set (i := 2) sc_law_number.nd rfl (by first | exact Or.inl rfl | exact Or.inr rfl) (pe_tup (pa_cons pe_int (pa_cons pe_int pa_nil))))
  (pss_cons (ps_for PassesOwn.never rfl (pi_zipX (K := K) rfl rfl (W.free "zip") (pa_cons (pv 0) (pa_cons (pv 1) pa_nil))) (pg_tupX (n := 2) (K := K) rfl rfl (pgs_cons (pg_name (i := 3) sc_law_number.nd rfl (by first | exact Or.inl rfl | exact Or.inr rfl)) (pgs_cons (pg_name (i := 4) sc_law_number.nd rfl (by first | exact Or.inl rfl | exact Or.inr rfl)) pgs_nil))) (pss_one (ps_for PassesOwn.never rfl (pi_range1 rfl (W.free "range") (pa_cons (pv 4) pa_nil)) (pg_name (i := 5) sc_law_number.nd rfl (by first | exact Or.inl rfl | exact Or.inr rfl)) (pss_one (ps_set (i := 2) sc_law_number.nd rfl (by first | exact Or.inl rfl | exact Or.inr rfl) (pe_cb c__law_mul (hr.mono (by omega)) rfl (pa_cons (pv 2) (pa_cons (pv 3) pa_nil))))))))
  (pss_one (ps_ret (pv 2)))))), body_D (F := As.emp) (fun ds d p => ?_) h⟩
  · obtain ⟨ds, d, p, hd, _⟩ := h
    rw [hd.len]
    obtain ⟨e, r, m, hr1, hb, hm, rfl, rfl⟩ := p
    rfl
  · obtain ⟨e, r, m, hr1, hb, hm, rfl, rfl⟩ := p
    let st := fun (a : Rat) (p : Rat × Nat) => a * p.1 ^ p.2
    have bd : ∀ i, Bd (e * m.sum) (((r.zip m).take i).foldl st 1) := fun i => by
      have h1 := fold_bd ((r.zip m).take i) 1 0 (fun p hp => hr1 p.1 (List.of_mem_zip (mem_take hp)).1) (Bd.one 0)
      refine h1.mono ?_
      rw [Nat.zero_add, List.map_take]
      exact Nat.mul_le_mul_left _ (Nat.le_trans (sum_take_le _ _) (zip_snd_sum r m))
    refine vs_seq1 (vs_asg0 (show VD K _ _ (encQ 1) from vd_tup (va_cons vd_int (va_cons vd_int va_nil)) (Nat.le_of_ble_eq_true rfl)) gd_name) ?_
    refine vs_seq1 (vs_forC (f := fun p : Rat × Nat => .tuple [encQ p.1, .int (p.2 : Nat)]) (xs := r.zip m) (fun i => [.d (encR r), .d (encM m), .d (encQ (((r.zip m).take i).foldl st 1)), .no, .no, .no]) ((vi_zip (k := false) (l := false) (ds := r.map encQ) (es := m.map fun n => .int (n : Nat)) (vb_var rfl) (vb_var rfl)).is (zipD_map _ _ r m)) (Le.refl _) fun i q hq => ?_) ?_
    · obtain ⟨x, n⟩ := q
      have hm1 := List.mem_of_getElem? hq
      have hx := hr1 x (List.of_mem_zip hm1).1
      have hp : (((r.zip m).take i).map (·.2)).sum + n ≤ m.sum := by
        rw [List.map_take, ← sum_take_succ _ i n (by rw [List.getElem?_map, hq]; rfl)]
        exact Nat.le_trans (sum_take_le _ _) (zip_snd_sum r m)
      have b0 : Bd (e * (((r.zip m).take i).map (·.2)).sum) (((r.zip m).take i).foldl st 1) := by
        have h1 := fold_bd ((r.zip m).take i) 1 0 (fun p hp => hr1 p.1 (List.of_mem_zip (mem_take hp)).1) (Bd.one 0)
        exact h1.mono (Nat.le_of_eq (Nat.zero_add _))
      have e0 := Nat.mul_le_mul_left e hp
      rw [Nat.mul_add] at e0
      refine ⟨_, _, _, gd_tup (gds_cons gd_name (gds_cons gd_name gds_nil)) rfl, vs_forC (f := fun j : Nat => .int (j : Nat)) (xs := List.range n) (fun j => [.d (encR r), .d (encM m), .d (encQ (((r.zip m).take i).foldl st 1 * x ^ j)), .d (encQ x), .d (.int (n : Nat)), .no]) ?_ ?_ fun j y hj => ⟨_, _, _, gd_name, vs_asg0 (vd_call (P := PmulD) (va_cons (vd_var rfl) (va_cons (vd_var rfl) va_nil)) ⟨((r.zip m).take i).foldl st 1 * x ^ j, x, ?_, hx.mono (by omega), rfl, rfl⟩) gd_name, ?_⟩, ?_⟩
      · have := vi_rng1 (K := K) (ta := tCons (tVar 4) tNil) (env := [.d (encR r), .d (encM m), .d (encQ (((r.zip m).take i).foldl st 1)), .d (encQ x), .d (.int (n : Nat)), .no]) (j := (n : Nat)) (va_cons (vd_var rfl) va_nil) (by omega) (by omega)
        rw [Int.toNat_natCast] at this
        exact this
      · rw [Rat.pow_zero, Rat.mul_one]
        exact Le.refl _
      · have hj2 : j < n := by
          have := (List.getElem?_eq_some_iff.mp hj).1
          simpa using this
        have e1 : e * j ≤ e * n := Nat.mul_le_mul_left e (Nat.le_of_lt hj2)
        exact (Bd.mul b0 (hx.pow j)).mono (by omega)
      · rw [Rat.pow_succ, ← Rat.mul_assoc]
        walk_at "le"
      · rw [List.length_range, fold_take st 1 _ hq]
        walk_at "le"
    · rw [List.take_length]
      exact vs_ret0 (vd_var rfl)

theorem sc_law_worth : FnScope ["_law_shape_here", "_law_rows", "_law_total", "_law_powers_here", "_law_bit", "_law_row", "_law_own"] ["_law_shape_here", "_law_rows"] (defScope (topS 37)) := ⟨rfl, rfl, rfl, by decide +kernel, rfl, by decide +kernel, by decide +kernel⟩
theorem cb_law_worth (W : Wd K mg) (c__law_add : Cb P w K mg base "_law_add" 2 ["_law_one", "_law_two"] (spD K PaddD)) (c__law_mul : Cb P w K mg base "_law_mul" 2 ["_law_one", "_law_two"] (spD K PmulD)) (c__law_number : Cb P w K mg base "_law_number" 3 ["_law_row", "_law_own"] (spD K PnumD)) : Cb P w K mg base "_law_worth" 4 ["_law_shape_here", "_law_rows"] (spD K PworD) := by
  refine mk_cb W 25 (i := 37) rfl sc_law_worth (fun _ _ _ _ _ _ us hl => match us, hl with | [_, _], _ => rfl) (fun vs H Q E h => ?_) fun f cdv A outer s H vs Q E hr h => ⟨_, PSs.nox (
    (pss_cons (ps_set (i := 2) sc_law_worth.nd rfl (by first | exact Or.inl rfl | exact Or.inr rfl) (pe_tup (pa_cons pe_int (pa_cons pe_int pa_nil))))
  (pss_cons (ps_for PassesOwn.never rfl (pi_seqX (K := K) rfl (pv 0)) (pg_tupX (n := 2) (K := K) rfl rfl (pgs_cons (pg_name (i := 3) sc_law_worth.nd rfl (by first | exact Or.inl rfl | exact Or.inr rfl)) (pgs_cons (pg_name (i := 4) sc_law_worth.nd rfl (by first | exact Or.inl rfl | exact Or.inr rfl)) pgs_nil))) (pss_cons (ps_for PassesOwn.never rfl (pi_zipX (K := K) rfl rfl (W.free "zip") (pa_cons (pv 1) (pa_cons (pv 3) pa_nil))) (pg_tupX (n := 2) (K := K) rfl rfl (pgs_cons (pg_name (i := 5) sc_law_worth.nd rfl (by first | exact Or.inl rfl | exact Or.inr rfl)) (pgs_cons (pg_name (i := 6) sc_law_worth.nd rfl (by first | exact Or.inl rfl | exact Or.inr rfl)) pgs_nil))) (pss_one (ps_set (i := 4) sc_law_worth.nd rfl (by first | exact Or.inl rfl | exact Or.inr rfl) (pe_cb c__law_mul (hr.mono (by omega)) rfl (pa_cons (pv 4) (pa_cons (pe_cb c__law_number (hr.mono (by omega)) rfl (pa_cons (pv 5) (pa_cons (pv 6) pa_nil))) pa_nil))))))
  (pss_one (ps_set (i := 2) sc_law_worth.nd rfl (by first | exact Or.inl rfl | exact Or.inr rfl) (pe_cb c__law_add (hr.mono (by omega)) rfl (pa_cons (pv 2) (pa_cons (pv 4) pa_nil)))))))
  (pss_one (ps_ret (pv 2)))))), body_D (F := As.emp) (fun ds d p => ?_) h⟩
  · obtain ⟨ds, d, p, hd, _⟩ := h
    rw [hd.len]
    obtain ⟨e, b, T, k, f, rows, hr1, hb, hT, hm, hm2, hT2, rfl, rfl⟩ := p
    rfl
  · obtain ⟨e, b, T, k, f, rows, hr1, hb, hT, hm, hm2, hT2, rfl, rfl⟩ := p
    let st := fun (a : Rat) (p : List Rat × List Nat) => a * numb p.1 p.2
    let ws := fun (t : Rat) (x : Pw × Rat) => t + (rows.zip x.1).foldl st x.2
    have tb : ∀ x ∈ f, ∀ i, Bd (b + e * T) (((rows.zip x.1).take i).foldl st x.2) := fun x hx i => by
      have h1 := fold_bd2 (e := e) ((rows.zip x.1).take i) x.2 b (fun p hp y hy => hr1 p.1 (List.of_mem_zip (mem_take hp)).1 y hy) (hb x hx)
      refine h1.mono (Nat.add_le_add_left (Nat.mul_le_mul_left _ ?_) _)
      exact Nat.le_trans (take_psum _ _) (Nat.le_trans (zip_psum rows x.1) (hT x hx))
    have tb2 : ∀ i, Bd 4000 ((f.take i).foldl ws 0) := fun i =>
      (sum_bd (B := b + e * T) (h := fun x : Pw × Rat => (rows.zip x.1).foldl st x.2) (l := f) (fun x hx => by have := tb x hx (rows.zip x.1).length; rw [List.take_length] at this; exact this) i).mono hm
    refine vs_seq1 (vs_asg0 (show VD K _ _ (encQ 0) from vd_tup (va_cons vd_int (va_cons vd_int va_nil)) (Nat.le_of_ble_eq_true rfl)) gd_name) ?_
    refine vs_seq1 (vs_forC (f := encF1) (xs := f) (fun i => [.d (encF f), .d (dk k (rows.map encR)), .d (encQ ((f.take i).foldl ws 0)), .no, .no, .no, .no]) (vi_seqT (vb_var rfl)) (Le.refl _) fun i x hx => ?_) ?_
    · have hm1 := List.mem_of_getElem? hx
      refine ⟨_, _, _, gd_tup (gds_cons gd_name (gds_cons gd_name gds_nil)) rfl, vs_seq1 (vs_forC (f := fun p : List Rat × List Nat => .tuple [encR p.1, encM p.2]) (xs := rows.zip x.1) (fun j => [.d (encF f), .d (dk k (rows.map encR)), .d (encQ ((f.take i).foldl ws 0)), .d (encP x.1), .d (encQ (((rows.zip x.1).take j).foldl st x.2)), .no, .no]) ((vi_zip (k := k) (l := false) (ds := rows.map encR) (es := x.1.map encM) (vb_var rfl) (vb_var rfl)).is (zipD_map _ _ rows x.1)) (Le.refl _) fun j y hy => ?_) (vs_asg0 (vd_call (P := PaddD) (va_cons (vd_var rfl) (va_cons (vd_var rfl) va_nil)) ⟨(f.take i).foldl ws 0, (rows.zip x.1).foldl st x.2, tb2 i, ?_, ?_, rfl⟩) gd_name), ?_⟩
      · have hz := List.of_mem_zip (List.mem_of_getElem? hy)
        have hy1 := hr1 y.1 hz.1
        have hy2 : y.2.sum ≤ T := Nat.le_trans (sum_le_psum hz.2) (hT x hm1)
        have e1 : e * y.2.sum ≤ e * T := Nat.mul_le_mul_left e hy2
        refine ⟨_, _, _, gd_tup (gds_cons gd_name (gds_cons gd_name gds_nil)) rfl, vs_asg0 (vd_call (P := PmulD) (va_cons (vd_var rfl) (va_cons (vd_call (P := PnumD) (va_cons (vd_var rfl) (va_cons (vd_var rfl) va_nil)) ⟨e, y.1, y.2, hy1, by omega, by omega, rfl, rfl⟩) va_nil)) ⟨((rows.zip x.1).take j).foldl st x.2, numb y.1 y.2, (tb x hm1 j).mono (by omega), (numb_bd hy1).mono (by omega), rfl, rfl⟩) gd_name, ?_⟩
        rw [fold_take st x.2 _ hy]
        walk_at "le"
      · have := tb x hm1 (rows.zip x.1).length
        rw [List.take_length] at this
        exact this.mono (by omega)
      · rw [List.take_length]
      · rw [fold_take ws 0 _ hx]
        walk_at "le"
    · rw [List.take_length]
      exact vs_ret0 (vd_var rfl)

theorem sc_law_met : FnScope ["_law_hope", "_law_spring_here", "_law_total", "_law_factors_here", "_law_bit", "_law_own", "_law_mean", "_law_row", "_law_chance"] ["_law_hope", "_law_spring_here"] (defScope (topS 39)) := ⟨rfl, rfl, rfl, by decide +kernel, rfl, by decide +kernel, by decide +kernel⟩
theorem cb_law_met (W : Wd K mg) (c__law_add : Cb P w K mg base "_law_add" 2 ["_law_one", "_law_two"] (spD K PaddD)) (c__law_mul : Cb P w K mg base "_law_mul" 2 ["_law_one", "_law_two"] (spD K PmulD)) (c__law_number : Cb P w K mg base "_law_number" 3 ["_law_row", "_law_own"] (spD K PnumD)) : Cb P w K mg base "_law_met" 4 ["_law_hope", "_law_spring_here"] (spD K PmetD) := by
  refine mk_cb W 27 (i := 39) rfl sc_law_met (fun _ _ _ _ _ _ us hl => match us, hl with | [_, _], _ => rfl) (fun vs H Q E h => ?_) fun f cdv A outer s H vs Q E hr h => ⟨_, PSs.nox (
    (pss_cons (ps_set (i := 2) sc_law_met.nd rfl (by first | exact Or.inl rfl | exact Or.inr rfl) (pe_tup (pa_cons pe_int (pa_cons pe_int pa_nil))))
  (pss_cons (ps_for PassesOwn.never rfl (pi_seqX (K := K) rfl (pv 0)) (pg_tupX (n := 2) (K := K) rfl rfl (pgs_cons (pg_name (i := 3) sc_law_met.nd rfl (by first | exact Or.inl rfl | exact Or.inr rfl)) (pgs_cons (pg_name (i := 4) sc_law_met.nd rfl (by first | exact Or.inl rfl | exact Or.inr rfl)) pgs_nil))) (pss_cons (ps_for PassesOwn.never rfl (pi_seqX (K := K) rfl (pv 3)) (pg_name (i := 5) sc_law_met.nd rfl (by first | exact Or.inl rfl | exact Or.inr rfl)) (pss_cons (ps_set (i := 6) sc_law_met.nd rfl (by first | exact Or.inl rfl | exact Or.inr rfl) (pe_tup (pa_cons pe_int (pa_cons pe_int pa_nil))))
  (pss_cons (ps_for PassesOwn.never rfl (pi_seqX (K := K) rfl (pv 1)) (pg_tupX (n := 2) (K := K) rfl rfl (pgs_cons (pg_name (i := 7) sc_law_met.nd rfl (by first | exact Or.inl rfl | exact Or.inr rfl)) (pgs_cons (pg_name (i := 8) sc_law_met.nd rfl (by first | exact Or.inl rfl | exact Or.inr rfl)) pgs_nil))) (pss_one (ps_set (i := 6) sc_law_met.nd rfl (by first | exact Or.inl rfl | exact Or.inr rfl) (pe_cb c__law_add (hr.mono (by omega)) rfl (pa_cons (pv 6) (pa_cons (pe_cb c__law_mul (hr.mono (by omega)) rfl (pa_cons (pv 8) (pa_cons (pe_cb c__law_number (hr.mono (by omega)) rfl (pa_cons (pv 7) (pa_cons (pv 5) pa_nil))) pa_nil))) pa_nil))))))
  (pss_one (ps_set (i := 4) sc_law_met.nd rfl (by first | exact Or.inl rfl | exact Or.inr rfl) (pe_cb c__law_mul (hr.mono (by omega)) rfl (pa_cons (pv 4) (pa_cons (pv 6) pa_nil))))))))
  (pss_one (ps_set (i := 2) sc_law_met.nd rfl (by first | exact Or.inl rfl | exact Or.inr rfl) (pe_cb c__law_add (hr.mono (by omega)) rfl (pa_cons (pv 2) (pa_cons (pv 4) pa_nil)))))))
  (pss_one (ps_ret (pv 2)))))), body_D (F := As.emp) (fun ds d p => ?_) h⟩
  · obtain ⟨ds, d, p, hd, _⟩ := h
    rw [hd.len]
    obtain ⟨e, b, c, T, M, f, sp, hs, hb, hT, hM, h3, hm, hm2, hT2, hT3, hT4, hT5, rfl, rfl⟩ := p
    rfl
  · obtain ⟨e, b, c, T, M, f, sp, hs, hb, hT, hM, h3, hm, hm2, hT2, hT3, hT4, hT5, rfl, rfl⟩ := p
    let ms := fun (m : List Nat) (t : Rat) (x : List Rat × Rat) => t + x.2 * numb x.1 m
    let st := fun (a : Rat) (m : List Nat) => a * mn sp m
    let ws := fun (t : Rat) (x : Pw × Rat) => t + x.1.foldl st x.2
    have mb : ∀ x ∈ f, ∀ m ∈ x.1, ∀ i, Bd M ((sp.take i).foldl (ms m) 0) := fun x hx m hm i => mn_bd hs (hT x hx m hm) hM i
    have mb2 : ∀ x ∈ f, ∀ m ∈ x.1, Bd M (mn sp m) := fun x hx m hm => by
      have := mb x hx m hm sp.length
      rw [List.take_length] at this
      exact this
    have tb : ∀ x ∈ f, ∀ i, Bd (b + M * 3) ((x.1.take i).foldl st x.2) := fun x hx i => by
      refine (fold_bd3 (M := M) (h := mn sp) (x.1.take i) x.2 b (fun m hm => mb2 x hx m (mem_take hm)) (hb x hx)).mono (Nat.add_le_add_left (Nat.mul_le_mul_left _ ?_) _)
      rw [List.length_take]
      exact Nat.le_trans (Nat.min_le_right _ _) (h3 x hx)
    have tb2 : ∀ i, Bd 4000 ((f.take i).foldl ws 0) := fun i =>
      (sum_bd (B := b + M * 3) (h := fun x : Pw × Rat => x.1.foldl st x.2) (l := f) (fun x hx => by have := tb x hx x.1.length; rw [List.take_length] at this; exact this) i).mono hm
    refine vs_seq1 (vs_asg0 (show VD K _ _ (encQ 0) from vd_tup (va_cons vd_int (va_cons vd_int va_nil)) (Nat.le_of_ble_eq_true rfl)) gd_name) ?_
    refine vs_seq1 (vs_forC (f := encF1) (xs := f) (fun i => [.d (encF f), .d (encSp sp), .d (encQ ((f.take i).foldl ws 0)), .no, .no, .no, .no, .no, .no]) (vi_seqT (vb_var rfl)) (Le.refl _) fun i x hx => ?_) ?_
    · have hm1 := List.mem_of_getElem? hx
      refine ⟨_, _, _, gd_tup (gds_cons gd_name (gds_cons gd_name gds_nil)) rfl, vs_seq1 (vs_forC (f := encM) (xs := x.1) (fun j => [.d (encF f), .d (encSp sp), .d (encQ ((f.take i).foldl ws 0)), .d (encP x.1), .d (encQ ((x.1.take j).foldl st x.2)), .no, .no, .no, .no]) (vi_seqT (vb_var rfl)) (Le.refl _) fun j m hj => ?_) (vs_asg0 (vd_call (P := PaddD) (va_cons (vd_var rfl) (va_cons (vd_var rfl) va_nil)) ⟨(f.take i).foldl ws 0, x.1.foldl st x.2, tb2 i, ?_, ?_, rfl⟩) gd_name), ?_⟩
      · have hmm := List.mem_of_getElem? hj
        have hmT := hT x hm1 m hmm
        have e1 : e * m.sum ≤ e * T := Nat.mul_le_mul_left e hmT
        refine ⟨_, _, _, gd_name, vs_seq1 (vs_asg0 (show VD K _ _ (encQ 0) from vd_tup (va_cons vd_int (va_cons vd_int va_nil)) (Nat.le_of_ble_eq_true rfl)) gd_name) (vs_seq1 (vs_forC (f := encSp1) (xs := sp) (fun l => [.d (encF f), .d (encSp sp), .d (encQ ((f.take i).foldl ws 0)), .d (encP x.1), .d (encQ ((x.1.take j).foldl st x.2)), .d (encM m), .d (encQ ((sp.take l).foldl (ms m) 0)), .no, .no]) (vi_seqT (vb_var rfl)) (Le.refl _) fun l y hl => ?_) (vs_asg0 (vd_call (P := PmulD) (va_cons (vd_var rfl) (va_cons (vd_var rfl) va_nil)) ⟨(x.1.take j).foldl st x.2, mn sp m, (tb x hm1 j).mono (by omega), (mb2 x hm1 m hmm).mono (by omega), ?_, rfl⟩) gd_name)), ?_⟩
        · obtain ⟨hy1, hy2⟩ := hs y (List.mem_of_getElem? hl)
          have nb := numb_bd (m := m) hy2
          refine ⟨_, _, _, gd_tup (gds_cons gd_name (gds_cons gd_name gds_nil)) rfl, vs_asg0 (vd_call (P := PaddD) (va_cons (vd_var rfl) (va_cons (vd_call (P := PmulD) (va_cons (vd_var rfl) (va_cons (vd_call (P := PnumD) (va_cons (vd_var rfl) (va_cons (vd_var rfl) va_nil)) ⟨e, y.1, m, hy2, by omega, by omega, rfl, rfl⟩) va_nil)) ⟨y.2, numb y.1 m, hy1.mono (by omega), nb.mono (by omega), rfl, rfl⟩) va_nil)) ⟨(sp.take l).foldl (ms m) 0, y.2 * numb y.1 m, (mb x hm1 m hmm l).mono (by omega), (Bd.mul hy1 nb).mono (by omega), rfl, rfl⟩) gd_name, ?_⟩
          rw [fold_take (ms m) 0 _ hl]
          walk_at "le"
        · rw [List.take_length]
          rfl
        · rw [fold_take st x.2 _ hj]
          walk_at "le"
      · have := tb x hm1 x.1.length
        rw [List.take_length] at this
        exact this.mono (by omega)
      · rw [List.take_length]
      · rw [fold_take ws 0 _ hx]
        walk_at "le"
    · rw [List.take_length]
      exact vs_ret0 (vd_var rfl)

theorem sc_law_drawn : FnScope ["_law_spring_here", "_law_size", "_law_found", "_law_lap", "_law_more", "_law_rows", "_law_chance", "_law_row", "_law_own"] ["_law_spring_here", "_law_size"] (defScope (topS 38)) := ⟨rfl, rfl, rfl, by decide +kernel, rfl, by decide +kernel, by decide +kernel⟩
theorem cb_law_drawn (W : Wd K mg) (c__law_mul : Cb P w K mg base "_law_mul" 2 ["_law_one", "_law_two"] (spD K PmulD)) : Cb P w K mg base "_law_drawn" 3 ["_law_spring_here", "_law_size"] (spD K PdrwD) := by
  refine mk_cb W 26 (i := 38) rfl sc_law_drawn (fun _ _ _ _ _ _ us hl => match us, hl with | [_, _], _ => rfl) (fun vs H Q E h => ?_) fun f cdv A outer s H vs Q E hr h => ⟨_, PSs.nox (
    (pss_cons (ps_set (i := 2) sc_law_drawn.nd rfl (by first | exact Or.inl rfl | exact Or.inr rfl) (pe_lst (pa_cons (pe_tup (pa_cons (pe_tup pa_nil) (pa_cons (pe_tup (pa_cons pe_int (pa_cons pe_int pa_nil))) pa_nil))) pa_nil)))
  (pss_cons (ps_for PassesOwn.never rfl (pi_range1 rfl (W.free "range") (pa_cons (pv 1) pa_nil)) (pg_name (i := 3) sc_law_drawn.nd rfl (by first | exact Or.inl rfl | exact Or.inr rfl)) (pss_cons (ps_set (i := 4) sc_law_drawn.nd rfl (by first | exact Or.inl rfl | exact Or.inr rfl) (pe_lst pa_nil))
  (pss_cons (ps_for PassesOwn.never rfl (pi_seqX (K := K) rfl (pv 2)) (pg_tupX (n := 2) (K := K) rfl rfl (pgs_cons (pg_name (i := 5) sc_law_drawn.nd rfl (by first | exact Or.inl rfl | exact Or.inr rfl)) (pgs_cons (pg_name (i := 6) sc_law_drawn.nd rfl (by first | exact Or.inl rfl | exact Or.inr rfl)) pgs_nil))) (pss_one (ps_set (i := 4) sc_law_drawn.nd rfl (by first | exact Or.inl rfl | exact Or.inr rfl) (pe_op (op_addX (K := K) rfl) (pv 4) (pe_lc (own := [("_law_row", 7), ("_law_own", 8)]) rfl sc_law_drawn.nd (pi_seqX (K := K) rfl (pv 0)) (blkOk_by (N := ["_law_spring_here", "_law_size", "_law_found", "_law_lap", "_law_more", "_law_rows", "_law_chance", "_law_row", "_law_own"]) (sc := defScope (topS 38)) (by decide +kernel)) (fun _ _ _ _ _ => (pg_tupX (n := 2) (K := K) rfl rfl (pgs_cons (pg_name (i := 7) sc_law_drawn.nd rfl (by first | exact Or.inl rfl | exact Or.inr rfl)) (pgs_cons (pg_name (i := 8) sc_law_drawn.nd rfl (by first | exact Or.inl rfl | exact Or.inr rfl)) pgs_nil)))) (fun _ _ _ _ _ => pts_nil) (fun _ _ _ _ _ => (pe_tup (pa_cons (pe_op (op_addX (K := K) rfl) (pv 5) (pe_tup (pa_cons (pv 7) pa_nil))) (pa_cons (pe_cb c__law_mul (hr.mono (by omega)) rfl (pa_cons (pv 6) (pa_cons (pv 8) pa_nil))) pa_nil)))))))))
  (pss_one (ps_set (i := 2) sc_law_drawn.nd rfl (by first | exact Or.inl rfl | exact Or.inr rfl) (pv 4))))))
  (pss_one (ps_ret (pv 2)))))), body_D (F := As.emp) (fun ds d p => ?_) h⟩
  · obtain ⟨ds, d, p, hd, _⟩ := h
    rw [hd.len]
    obtain ⟨c, n, sp, hs, hc, hc2, hl, hn, rfl, rfl⟩ := p
    rfl
  · obtain ⟨c, n, sp, hs, hc, hc2, hl, hn, rfl, rfl⟩ := p
    have dl : ∀ i, i ≤ n → (drw sp i).length ≤ 1000 := fun i hi => by
      rw [drw_len]
      exact Nat.le_trans (Nat.pow_le_pow_left hl i) (Nat.le_trans (Nat.pow_le_pow_right (by decide) (Nat.le_trans hi hn)) (by decide))
    let ds := fun (acc : Drw) (x : List (List Rat) × Rat) => acc ++ sp.map fun y => (x.1 ++ [y.1], x.2 * y.2)
    have dl2 : ∀ i, i < n → ∀ j, j ≤ (drw sp i).length → (((drw sp i).take j).foldl ds []).length ≤ 1000 := fun i hi j hj => by
      have h1 := dstep_len sp ((drw sp i).take j) []
      rw [List.length_take, List.length_nil, Nat.zero_add] at h1
      have h2 := dl (i + 1) hi
      rw [drw_len, Nat.pow_succ, ← drw_len i] at h2
      show (((drw sp i).take j).foldl (fun acc x => acc ++ sp.map fun y => (x.1 ++ [y.1], x.2 * y.2)) []).length ≤ 1000
      rw [h1]
      exact Nat.le_trans (Nat.mul_le_mul_right _ (Nat.min_le_right _ _)) h2
    refine vs_seq1 (vs_asg0 (d := .list ((drw sp 0).map encD1)) (VN.dat (vn_lst (va_cons (show VD K _ _ (encD1 ([], 1)) from vd_tup (va_cons (vd_tup va_nil (Nat.le_of_ble_eq_true rfl)) (va_cons (show VD K _ _ (encQ 1) from vd_tup (va_cons vd_int (va_cons vd_int va_nil)) (Nat.le_of_ble_eq_true rfl)) va_nil)) (Nat.le_of_ble_eq_true rfl)) va_nil) (Nat.le_of_ble_eq_true rfl))) gd_name) ?_
    refine vs_seq1 (vs_forC (f := fun j : Nat => .int (j : Nat)) (xs := List.range n) (fun i => [.d (encSp sp), .d (.int (n : Nat)), .d (.list ((drw sp i).map encD1)), .no, .no, .no, .no, .no, .no]) ?_ (Le.refl _) fun i z hi => ?_) ?_
    · have := vi_rng1 (K := K) (ta := tCons (tVar 1) tNil) (env := [.d (encSp sp), .d (.int (n : Nat)), .d (.list ((drw sp 0).map encD1)), .no, .no, .no, .no, .no, .no]) (j := (n : Nat)) (va_cons (vd_var rfl) va_nil) (by omega) (by omega)
      rw [Int.toNat_natCast] at this
      exact this
    · have hi2 : i < n := by
        have := (List.getElem?_eq_some_iff.mp hi).1
        simpa using this
      refine ⟨_, _, _, gd_name, vs_seq1 (vs_asg0 (d := .list []) (VN.dat (vn_lst va_nil (Nat.le_of_ble_eq_true rfl))) gd_name) (vs_seq1 (vs_forC (f := encD1) (xs := drw sp i) (fun j => [.d (encSp sp), .d (.int (n : Nat)), .d (.list ((drw sp i).map encD1)), .d (.int (z : Nat)), .d (.list ((((drw sp i).take j).foldl ds []).map encD1)), .no, .no, .no, .no]) (vi_seqL (vb_var rfl)) (Le.refl _) fun j x hx => ?_) (vs_asg0 (vd_var rfl) gd_name)), ?_⟩
      · have hxm := List.mem_of_getElem? hx
        obtain ⟨hx1, hx2⟩ := drw_bd hs i x hxm
        have ci : c * i ≤ 4000 := Nat.le_trans (Nat.mul_le_mul_left c (Nat.le_of_lt hi2)) hc
        have hj : j < (drw sp i).length := (List.getElem?_eq_some_iff.mp hx).1
        have l1 := dl2 i hi2 j (Nat.le_of_lt hj)
        refine ⟨_, _, _, gd_tup (gds_cons gd_name (gds_cons gd_name gds_nil)) rfl, vs_asg0 (d := .list ((((drw sp i).take j).foldl ds [] ++ sp.map fun y => (x.1 ++ [y.1], x.2 * y.2)).map encD1)) ?_ gd_name, ?_⟩
        · rw [List.map_append, List.map_map]
          refine vd_op (vd_var rfl) (VN.dat (vn_lc (ds := sp.map encSp1) (vi_seqT (vb_var rfl)) (by rw [List.length_map]; omega) (lc_map fun y hy => ⟨_, _, gd_tup (gds_cons gd_name (gds_cons gd_name gds_nil)) rfl, by simp, vt_yes, vb_im (d := encD1 (x.1 ++ [y.1], x.2 * y.2)) (vd_tup (va_cons ?_ (va_cons (vd_call (P := PmulD) (va_cons (vd_var rfl) (va_cons (vd_var rfl) va_nil)) ⟨x.2, y.2, hx1.mono ci, (hs y hy).mono hc2, rfl, rfl⟩) va_nil)) (Nat.le_of_ble_eq_true rfl)) (im_encD1 _)⟩))) (rd_catL (by rw [List.length_map, List.length_map]; omega))
          refine VD.is (vd_op (vd_var (d := .tuple (x.1.map encR)) rfl) (vd_tup (va_cons (vd_var rfl) va_nil) (Nat.le_of_ble_eq_true rfl)) (rd_catT (by rw [List.length_map]; show x.1.length + 1 ≤ 100000; omega))) ?_
          rw [List.map_append]
          rfl
        · rw [fold_take ds [] _ hx]
          walk_at "le"
      · rw [List.take_length]
        show Le _ [_, _, .d (.list ((dstep sp (drw sp i)).map encD1)), _, _, _, _, _, _]
        unfold dstep
        walk_at "le"
    · rw [List.length_range]
      exact vs_ret0 (vd_var rfl)

/-! what the samples show -/
def shows (g : List (List Nat × Nat)) : Pw := g.flatMap fun x => List.replicate x.2 x.1
def PshoD (ds : List PyData) (d : PyData) : Prop := ∃ g : List (List Nat × Nat), g.length ≤ 10 ∧ (∀ x ∈ g, x.2 ≤ 10) ∧ ds = [encG g] ∧ d = .list ((shows g).map encM)
def PkinD (ds : List PyData) (d : PyData) : Prop := ∃ g : List (List Nat × Nat), g.length ≤ 10 ∧ (∀ x ∈ g, x.2 ≤ 10 ∧ x.1.length ≤ 1000) ∧ ds = [encG g] ∧ d = encP (shows g)
theorem shows_len : ∀ g : List (List Nat × Nat), (∀ x ∈ g, x.2 ≤ 10) → (shows g).length ≤ 10 * g.length
  | [], _ => Nat.le_refl _
  | x :: g, h => by
    have := shows_len g fun y hy => h y (List.mem_cons_of_mem _ hy)
    have h1 := h x List.mem_cons_self
    unfold shows at this ⊢
    rw [List.flatMap_cons, List.length_append, List.length_replicate, List.length_cons]
    omega
theorem shows_take (g : List (List Nat × Nat)) {i : Nat} {x : List Nat × Nat} (h : g[i]? = some x) : shows (g.take (i + 1)) = shows (g.take i) ++ List.replicate x.2 x.1 := by
  unfold shows
  rw [List.take_add_one, h, List.flatMap_append]
  simp
theorem shows_take_len {g : List (List Nat × Nat)} (hl : g.length ≤ 10) (h : ∀ x ∈ g, x.2 ≤ 10) (i : Nat) : (shows (g.take i)).length ≤ 100 := by
  have h1 := shows_len (g.take i) fun x hx => h x (mem_take hx)
  rw [List.length_take] at h1
  omega
theorem rep_enc (n : Nat) (m : List Nat) : (List.replicate n [encM m]).flatten = (List.replicate n m).map encM := by
  induction n with
  | zero => rfl
  | succ n ih => rw [List.replicate_succ, List.flatten_cons, ih, List.replicate_succ]; rfl
theorem dp_G (g : List (List Nat × Nat)) : (encG g).depth ≤ 3 := dep_tup (mem_map_all fun x _ => dep_tup (n := 1) fun d hd => by
  rcases List.mem_cons.mp hd with rfl | hd
  · exact dp_M _
  · rw [List.mem_singleton.mp hd]; simp [PyData.depth])
theorem lnk_G {g : List (List Nat × Nat)} (hl : g.length ≤ 10) (h : ∀ x ∈ g, x.1.length ≤ 1000) : lnk (encG g) = true := lnk_tup (by rw [List.length_map]; omega) (mem_map_all fun x hx => lnk_2 (lnk_M (h x hx)) rfl)

theorem sc_law_shows : FnScope ["_law_groups_here", "_law_found", "_law_seen", "_law_many"] ["_law_groups_here"] (defScope (topS 41)) := ⟨rfl, rfl, rfl, by decide +kernel, rfl, by decide +kernel, by decide +kernel⟩
theorem cb_law_shows (W : Wd K mg) : Cb P w K mg base "_law_shows" 1 ["_law_groups_here"] (spO K PshoD) := by
  refine mk_cb W 29 (i := 41) rfl sc_law_shows (fun _ _ _ _ _ _ us hl => match us, hl with | [_], _ => rfl) (fun vs H Q E h => ?_) fun f cdv A outer s H vs Q E hr h => ⟨_, PSs.nox (
    (pss_cons (ps_set (i := 1) sc_law_shows.nd rfl (by first | exact Or.inl rfl | exact Or.inr rfl) (pe_lst pa_nil))
  (pss_cons (ps_for PassesOwn.never rfl (pi_seqX (K := K) rfl (pv 0)) (pg_tupX (n := 2) (K := K) rfl rfl (pgs_cons (pg_name (i := 2) sc_law_shows.nd rfl (by first | exact Or.inl rfl | exact Or.inr rfl)) (pgs_cons (pg_name (i := 3) sc_law_shows.nd rfl (by first | exact Or.inl rfl | exact Or.inr rfl)) pgs_nil))) (pss_one (ps_set (i := 1) sc_law_shows.nd rfl (by first | exact Or.inl rfl | exact Or.inr rfl) (pe_op (op_addX (K := K) rfl) (pv 1) (pe_op (op_mulX (K := K) rfl) (pe_lst (pa_cons (pv 2) pa_nil)) (pv 3))))))
  (pss_one (ps_ret (pv 1)))))), body_O (fun O F ds d p => ?_) h⟩
  · obtain ⟨O, ds, d, p, _, hd, _⟩ := h
    rw [hd.len]
    obtain ⟨g, hl, hg, rfl, rfl⟩ := p
    rfl
  · obtain ⟨g, hl, hg, rfl, rfl⟩ := p
    refine vs_seq1 (vs_asg (vb_new (ds := (shows (g.take 0)).map encM) (vn_lst va_nil (Nat.le_of_ble_eq_true rfl)) rfl) gd_name) ?_
    refine vs_seq1 (vs_forC (f := encG1) (xs := g) (fun i => [.d (encG g), .d (.list ((shows (g.take i)).map encM)), .no, .no]) (vi_seqT (vb_var rfl)) (Le.refl _) fun i x hi => ?_) ?_
    · have hx := hg x (List.mem_of_getElem? hi)
      have l1 := shows_take_len hl hg i
      refine ⟨_, _, _, gd_tup (gds_cons gd_name (gds_cons gd_name gds_nil)) rfl, vs_asg (vb_new ((vn_cat (vd_var rfl) (VN.dat (vn_rep (ds := [encM x.1]) (VN.dat (vn_lst (va_cons (vd_var rfl) va_nil) (Nat.le_of_ble_eq_true rfl))) (vd_var rfl) (by omega) (Nat.le_of_ble_eq_true rfl))) (by rw [List.length_map, rep_enc, List.length_map, List.length_replicate]; omega)).is (es := (shows (g.take (i + 1))).map encM) (by rw [shows_take g hi, List.map_append, rep_enc])) (imA_map _ im_encM _)) gd_name, ?_⟩
      walk_at "le"
    · rw [List.take_length]
      exact vs_ret (vb_var rfl)

theorem sc_kind_samples : FnScope ["kinds", "found", "seen", "number"] ["kinds"] (defScope (topS 9)) := ⟨rfl, rfl, rfl, by decide +kernel, rfl, by decide +kernel, by decide +kernel⟩
theorem cb_kind_samples (W : Wd K mg) (c_tuple_of : Cb P w K mg base "tuple_of" 10 ["thing"] (spD K (PtupD 10))) : Cb P w K mg base "kind_samples" 11 ["kinds"] (spD K PkinD) := by
  refine mk_cb W 3 (i := 9) rfl sc_kind_samples (fun _ _ _ _ _ _ us hl => match us, hl with | [_], _ => rfl) (fun vs H Q E h => ?_) fun f cdv A outer s H vs Q E hr h => ⟨_, PSs.nox (
    (pss_cons (ps_set (i := 1) sc_kind_samples.nd rfl (by first | exact Or.inl rfl | exact Or.inr rfl) (pe_lst pa_nil))
  (pss_cons (ps_for PassesOwn.never rfl (pi_tupX (K := K) rfl (pe_cb c_tuple_of (hr.mono (by omega)) rfl (pa_cons (pv 0) pa_nil))) (pg_tupX (n := 2) (K := K) rfl rfl (pgs_cons (pg_name (i := 2) sc_kind_samples.nd rfl (by first | exact Or.inl rfl | exact Or.inr rfl)) (pgs_cons (pg_name (i := 3) sc_kind_samples.nd rfl (by first | exact Or.inl rfl | exact Or.inr rfl)) pgs_nil))) (pss_one (ps_expr (pe_bmX (K := K) rfl PySem.F.plainAttrs_list PySem.F.slot_list_extend PySem.F.type_list_extend mt_extend (pv 1) (pa_cons (pe_op (op_mulX (K := K) rfl) (pe_lst (pa_cons (pv 2) pa_nil)) (pv 3)) pa_nil)))))
  (pss_one (ps_ret (pe_callTy (cr_tupX (K := K) rfl) (by rfl) (W.free "tuple") (by decide +kernel) (pa_cons (pv 1) pa_nil))))))), body_D (F := As.emp) (fun ds d p => ?_) h⟩
  · obtain ⟨ds, d, p, hd, _⟩ := h
    rw [hd.len]
    obtain ⟨g, hl, hg, rfl, rfl⟩ := p
    rfl
  · obtain ⟨g, hl, hg, rfl, rfl⟩ := p
    have hg1 : ∀ x ∈ g, x.2 ≤ 10 := fun x hx => (hg x hx).1
    refine vs_newLR (F2 := As.emp) (ds := (shows (g.take 0)).map encM) (es := (shows g).map encM) (env2 := [.d (encG g), .no, .no, .no]) rfl (imA_map _ im_encM _) (vn_lst va_nil (Nat.le_of_ble_eq_true rfl)) (fun a ha => ?_) (Nat.lt_of_sub_eq_succ rfl) ?_
    · refine (vs_forT (f := encG1) (xs := g) (fun i => [.d (encG g), .v (.ref a), .no, .no]) (fun i => As.emp.and (.lst K a ((shows (g.take i)).map encM) (imA_map _ im_encM _))) (vi_tupB (vb_im ((vd_call (va_cons (vd_var rfl) va_nil) ⟨encG g, Nat.lt_of_le_of_lt (dp_G g) (by decide), lnk_G hl fun x hx => (hg x hx).2, rfl, rfl⟩).is (tupOf_im _ (im_encG g))) (im_encG g))) (Le.refl _) (fun H h => h) fun i x hi => ?_).le (.nx (fun e he => ⟨e, he, Le.refl _⟩) fun H h => by rw [List.take_length] at h; exact h)
      have hx := hg1 x (List.mem_of_getElem? hi)
      have l1 := shows_take_len hl hg1 i
      have e1 : (shows (g.take (i + 1))).map encM = (shows (g.take i)).map encM ++ (List.replicate x.2 [encM x.1]).flatten := by rw [shows_take g hi, List.map_append, rep_enc]
      have im2 : imA ((shows (g.take i)).map encM ++ (List.replicate x.2 [encM x.1]).flatten) = true := by rw [← e1]; exact imA_map _ im_encM _
      refine ⟨_, _, _, gd_tup (gds_cons gd_name (gds_cons gd_name gds_nil)) rfl, (vs_extend (m' := im2) rfl List.mem_cons_self (vn_rep (ds := [encM x.1]) (VN.dat (vn_lst (va_cons (vd_var rfl) va_nil) (Nat.le_of_ble_eq_true rfl))) (vd_var rfl) (by omega) (Nat.le_of_ble_eq_true rfl)) As.off_emp (by rw [List.length_map, rep_enc, List.length_map, List.length_replicate]; omega)).le (.nx (fun e he => ⟨e, he, Le.refl _⟩) fun H h => ?_), ?_⟩
      · refine ⟨trivial, ?_⟩
        obtain ⟨xs, h1, h2⟩ := h.2
        exact ⟨xs, h1, by rw [e1]; exact h2⟩
      · walk_at "le"
    · exact vs_ret0 (vd_cb (va_cons (vd_var (d := .list ((shows g).map encM)) rfl) va_nil) rg_tupL)

/-! rows of numbers that come to a total -/
def splits (t : Nat) : Nat → Pw
  | 0 => if t = 0 then [[]] else []
  | n + 1 => (List.range (t + 1)).flatMap fun i => (splits (t - i) n).map fun r => i :: r
theorem splits_len : ∀ (n t : Nat), t ≤ 9 → (splits t n).length ≤ 10 ^ n
  | 0, t, h => by
    unfold splits
    split <;> simp
  | n + 1, t, h => by
    unfold splits
    rw [List.length_flatMap]
    have : ∀ k, k ≤ 10 → ((List.range k).map fun i => ((splits (t - i) n).map fun r => i :: r).length).sum ≤ k * 10 ^ n := by
      intro k
      induction k with
      | zero => intro _; simp
      | succ k ih =>
        intro hk
        have h1 := ih (by omega)
        have h2 := splits_len n (t - k) (by omega)
        rw [List.range_succ, List.map_append, List.sum_append, Nat.succ_mul]
        simp only [List.map_cons, List.map_nil, List.sum_cons, List.sum_nil, List.length_map, Nat.add_zero] at h1 ⊢
        omega
    have h3 := this (t + 1) (by omega)
    refine Nat.le_trans h3 ?_
    rw [Nat.pow_succ, Nat.mul_comm]
    exact Nat.mul_le_mul_left _ (by omega)
theorem splits_mem : ∀ (n t : Nat), ∀ r ∈ splits t n, r.length = n
  | 0, t, r, h => by
    unfold splits at h
    split at h
    · rw [List.mem_singleton.mp h]; rfl
    · cases h
  | n + 1, t, r, h => by
    unfold splits at h
    obtain ⟨i, _, h2⟩ := List.mem_flatMap.mp h
    obtain ⟨q, h3, rfl⟩ := List.mem_map.mp h2
    rw [List.length_cons, splits_mem n _ q h3]
def sfold (t n i : Nat) : Pw := (List.range i).flatMap fun i => (splits (t - i) n).map fun r => i :: r
theorem sfold_succ (t n i : Nat) : sfold t n (i + 1) = sfold t n i ++ (splits (t - i) n).map fun r => i :: r := by
  unfold sfold
  rw [List.range_succ, List.flatMap_append]
  simp
theorem sfold_len {t n : Nat} (ht : t ≤ 9) (hn : n ≤ 2) : ∀ i, i ≤ t + 1 → (sfold t n i).length ≤ i * 100
  | 0, _ => Nat.le_refl _
  | i + 1, h => by
    have h1 := sfold_len ht hn i (by omega)
    have h2 := splits_len n (t - i) (by omega)
    have h3 : 10 ^ n ≤ 10 ^ 2 := Nat.pow_le_pow_right (by decide) hn
    rw [sfold_succ, List.length_append, List.length_map]
    omega
/-- called with fewer than k columns -/
def PsplD (k : Nat) (ds : List PyData) (d : PyData) : Prop := ∃ t n : Nat, n < k ∧ n ≤ 3 ∧ t ≤ 9 ∧ ds = [.int (t : Nat), .int (n : Nat)] ∧ d = .list ((splits t n).map encM)

theorem sc_law_splits : FnScope ["_law_total", "_law_many", "_law_found", "_law_first", "_law_rest"] ["_law_total", "_law_many"] (defScope (topS 46)) := ⟨rfl, rfl, rfl, by decide +kernel, rfl, by decide +kernel, by decide +kernel⟩
theorem cb_law_splits1 {k : Nat} (W : Wd K mg) (c__law_splits : Cb P w K mg base "_law_splits" k ["_law_total", "_law_many"] (spO K (PsplD k))) : Cb P w K mg base "_law_splits" (k + 1) ["_law_total", "_law_many"] (spO K (PsplD (k + 1))) := by
  refine mk_cb W 34 (i := 46) rfl sc_law_splits (fun _ _ _ _ _ _ us hl => match us, hl with | [_, _], _ => rfl) (fun vs H Q E h => ?_) fun f cdv A outer s H vs Q E hr h => ⟨_, PSs.nox (
    (pss_cons (ps_if (pt_cmpR (op_eqX (K := K) rfl hr.units) (pv 1) pe_int (nomark _)) (pss_one (ps_ret (pe_ifExp (pt_cmpR (op_eqX (K := K) rfl hr.units) (pv 0) pe_int (nomark _)) (pe_lst (pa_cons (pe_tup pa_nil) pa_nil)) (pe_lst pa_nil)))) pss_nil)
  (pss_cons (ps_set (i := 2) sc_law_splits.nd rfl (by first | exact Or.inl rfl | exact Or.inr rfl) (pe_lst pa_nil))
  (pss_cons (ps_for PassesOwn.never rfl (pi_range1 rfl (W.free "range") (pa_cons (pe_op (op_addX (K := K) rfl) (pv 0) pe_int) pa_nil)) (pg_name (i := 3) sc_law_splits.nd rfl (by first | exact Or.inl rfl | exact Or.inr rfl)) (pss_one (ps_set (i := 2) sc_law_splits.nd rfl (by first | exact Or.inl rfl | exact Or.inr rfl) (pe_op (op_addX (K := K) rfl) (pv 2) (pe_lc (own := [("_law_rest", 4)]) rfl sc_law_splits.nd (pi_seqX (K := K) rfl (pe_cb c__law_splits (hr.mono (by omega)) rfl (pa_cons (pe_op op_sub (pv 0) (pv 3)) (pa_cons (pe_op op_sub (pv 1) pe_int) pa_nil)))) (blkOk_by (N := ["_law_total", "_law_many", "_law_found", "_law_first", "_law_rest"]) (sc := defScope (topS 46)) (by decide +kernel)) (fun _ _ _ _ _ => (pg_name (i := 4) sc_law_splits.nd rfl (by first | exact Or.inl rfl | exact Or.inr rfl))) (fun _ _ _ _ _ => pts_nil) (fun _ _ _ _ _ => (pe_op (op_addX (K := K) rfl) (pe_tup (pa_cons (pv 3) pa_nil)) (pv 4))))))))
  (pss_one (ps_ret (pv 2))))))), body_O (fun O F ds d p => ?_) h⟩
  · obtain ⟨O, ds, d, p, _, hd, _⟩ := h
    rw [hd.len]
    obtain ⟨t, n, hk, hn, ht, rfl, rfl⟩ := p
    rfl
  · obtain ⟨t, n, hk, hn, ht, rfl, rfl⟩ := p
    cases n with
    | zero =>
      refine vs_seqR (vs_ifT ((vt_test (vd_op (vd_var (d := .int ((0 : Nat) : Int)) rfl) vd_int (rd_eqD rfl rfl))).is rfl) (vs_ret (vb_new (ds := (splits t 0).map encM) (vn_if (c := decide (t = 0)) ((vt_test (vd_op (vd_var (d := .int ((t : Nat) : Int)) rfl) vd_int (rd_eqD (b := .int 0) rfl rfl))).is ?_) (fun z => ?_) fun z => ?_) (imA_map _ im_encM _))))
      · rw [eqv_int]
        by_cases h : t = 0
        · subst h; rfl
        · rw [decide_eq_false h, decide_eq_false (by omega)]
      · have z := of_decide_eq_true z
        subst z
        exact vn_lst (va_cons (vd_tup va_nil (Nat.le_of_ble_eq_true rfl)) va_nil) (Nat.le_of_ble_eq_true rfl)
      · have z := of_decide_eq_false z
        have e : splits t 0 = [] := by unfold splits; rw [if_neg z]
        rw [e]
        exact vn_lst va_nil (Nat.le_of_ble_eq_true rfl)
    | succ n =>
      have e0 : PyData.eqv (.int ((n + 1 : Nat) : Int)) (.int 0) = false := by rw [eqv_int]; exact decide_eq_false (by omega)
      refine vs_seq1 (vs_ifF ((vt_test (vd_op (vd_var (d := .int ((n + 1 : Nat) : Int)) rfl) vd_int (rd_eqD (b := .int 0) rfl rfl))).is e0) vs_next) ?_
      refine vs_seq1 (vs_asg (vb_new (ds := (sfold t n 0).map encM) (vn_lst va_nil (Nat.le_of_ble_eq_true rfl)) rfl) gd_name) ?_
      refine vs_seq1 (vs_forC (f := fun j : Nat => .int (j : Nat)) (xs := List.range (t + 1)) (fun i => [.d (.int ((t : Nat) : Int)), .d (.int ((n + 1 : Nat) : Int)), .d (.list ((sfold t n i).map encM)), .no, .no]) ?_ (Le.refl _) fun i z hi => ?_) ?_
      · have := vi_rng1 (K := K) (ta := tCons (tOp (rAddG K) (tVar 0) (tC (.int 1))) tNil) (env := [.d (.int ((t : Nat) : Int)), .d (.int ((n + 1 : Nat) : Int)), .d (.list ((sfold t n 0).map encM)), .no, .no]) (j := (t : Nat) + 1) (va_cons (vd_op (vd_var rfl) vd_int rd_add) va_nil) (by omega) (by omega)
        have e : (((t : Nat) : Int) + 1).toNat = t + 1 := by omega
        rw [e] at this
        exact this
      · have hz : z = i := by
          have h1 := (List.getElem?_eq_some_iff.mp hi)
          obtain ⟨h2, h3⟩ := h1
          simpa using h3.symm
        subst hz
        have hi2 : z < t + 1 := by
          have := (List.getElem?_eq_some_iff.mp hi).1
          simpa using this
        have l1 := sfold_len (n := n) ht (by omega) z (Nat.le_of_lt hi2)
        have l2 := splits_len n (t - z) (by omega)
        have l3 : 10 ^ n ≤ 10 ^ 2 := Nat.pow_le_pow_right (by decide) (by omega)
        refine ⟨_, _, _, gd_name, vs_asg (vb_new ((vn_cat (vd_var rfl) (VN.dat (vn_lc0 (ds := (splits (t - z) n).map encM) (os := (splits (t - z) n).map fun r => encM (z :: r)) (vi0_seqL ?_) (by rw [List.length_map]; omega) (lc_map fun r hr => ⟨_, _, gd_name, by simp, vt_yes, ?_⟩))) (by rw [List.length_map, List.length_map]; omega)).is (es := (sfold t n (z + 1)).map encM) (by rw [sfold_succ, List.map_append, List.map_map]; rfl)) (imA_map _ im_encM _)) gd_name, ?_⟩
        · refine vd_callO (P := PsplD k) (ds := [.int ((t - z : Nat) : Int), .int (n : Nat)]) (va_cons ((vd_op (vd_var rfl) (vd_var rfl) rd_I0).is ?_) (va_cons ((vd_op (vd_var rfl) vd_int rd_I0).is ?_) va_nil)) ⟨t - z, n, by omega, by omega, by omega, rfl, rfl⟩
          · congr 1; omega
          · congr 1; omega
        · exact vb_im (d := encM (z :: r)) (vd_op (vd_tup (va_cons (vd_var rfl) va_nil) (Nat.le_of_ble_eq_true rfl)) (vd_var rfl) (rd_catT (ds := [.int ((z : Nat) : Int)]) (es := r.map fun n => .int (n : Nat)) (by rw [List.length_map, splits_mem _ _ r hr]; show 1 + n ≤ 100000; omega))) (im_encM _)
        · walk_at "le"
      · rw [List.length_range]
        exact vs_ret (vb_var rfl)

theorem cb_law_splits (W : Wd K mg) : ∀ k, Cb P w K mg base "_law_splits" k ["_law_total", "_law_many"] (spO K (PsplD k))
  | 0 => cb_none W 34 (i := 46) rfl (fun _ _ _ _ _ _ us hl => match us, hl with | [_, _], _ => rfl) fun vs H Q E h => by
    obtain ⟨O, ds, d, ⟨t, n, hx, _⟩, _⟩ := h
    exact absurd hx (Nat.not_lt_zero _)
  | k + 1 => cb_law_splits1 W (cb_law_splits W k)

/-- called with fewer than k columns -/
def PshaN (k : Nat) (ds es : List PyData) : Prop := ∃ t n : Nat, n < k ∧ n ≤ 3 ∧ t ≤ 9 ∧ ds = [.int (t : Nat), .int (n : Nat)] ∧ es = (splits t n).map encM

theorem sc_shared : FnScope ["total", "many", "found", "first", "rest"] ["total", "many"] (defScope (topS 21)) := ⟨rfl, rfl, rfl, by decide +kernel, rfl, by decide +kernel, by decide +kernel⟩
theorem cb_shared1 {k : Nat} (W : Wd K mg) (c__shared : Cb P w K mg base "_shared" k ["total", "many"] (spN K (PshaN k))) : Cb P w K mg base "_shared" (k + 1) ["total", "many"] (spN K (PshaN (k + 1))) := by
  refine mk_cb W 10 (i := 21) rfl sc_shared (fun _ _ _ _ _ _ us hl => match us, hl with | [_, _], _ => rfl) (fun vs H Q E h => ?_) fun f cdv A outer s H vs Q E hr h => ⟨_, PSs.nox (
    (pss_cons (ps_if (pt_cmpR (op_eqX (K := K) rfl hr.units) (pv 1) pe_int (nomark _)) (pss_one (ps_ret (pe_ifExp (pt_cmpR (op_eqX (K := K) rfl hr.units) (pv 0) pe_int (nomark _)) (pe_lst (pa_cons (pe_tup pa_nil) pa_nil)) (pe_lst pa_nil)))) pss_nil)
  (pss_cons (ps_set (i := 2) sc_shared.nd rfl (by first | exact Or.inl rfl | exact Or.inr rfl) (pe_lst pa_nil))
  (pss_cons (ps_for PassesOwn.never rfl (pi_range1 rfl (W.free "range") (pa_cons (pe_op (op_addX (K := K) rfl) (pv 0) pe_int) pa_nil)) (pg_name (i := 3) sc_shared.nd rfl (by first | exact Or.inl rfl | exact Or.inr rfl)) (pss_one (ps_expr (pe_bmX (K := K) rfl PySem.F.plainAttrs_list PySem.F.slot_list_extend PySem.F.type_list_extend mt_extend (pv 2) (pa_cons (pe_lc (own := [("rest", 4)]) rfl sc_shared.nd (pi_seqX (K := K) rfl (pe_cb c__shared (hr.mono (by omega)) rfl (pa_cons (pe_op op_sub (pv 0) (pv 3)) (pa_cons (pe_op op_sub (pv 1) pe_int) pa_nil)))) (blkOk_by (N := ["total", "many", "found", "first", "rest"]) (sc := defScope (topS 21)) (by decide +kernel)) (fun _ _ _ _ _ => (pg_name (i := 4) sc_shared.nd rfl (by first | exact Or.inl rfl | exact Or.inr rfl))) (fun _ _ _ _ _ => pts_nil) (fun _ _ _ _ _ => (pe_tup (pa_cons (pv 3) (pa_starX (K := K) rfl (pv 4) pa_nil))))) pa_nil)))))
  (pss_one (ps_ret (pv 2))))))), body_N (F := As.emp) (fun ds d p => ?_) h⟩
  · obtain ⟨ds, d, p, hd, _⟩ := h
    rw [hd.len]
    obtain ⟨t, n, hk, hn, ht, rfl, rfl⟩ := p
    rfl
  · obtain ⟨t, n, hk, hn, ht, rfl, rfl⟩ := p
    cases n with
    | zero =>
      refine vs_seqRN (vs_ifT ((vt_test (vd_op (vd_var (d := .int ((0 : Nat) : Int)) rfl) vd_int (rd_eqD rfl rfl))).is rfl) (vs_retN0 (vn_if (c := decide (t = 0)) ((vt_test (vd_op (vd_var (d := .int ((t : Nat) : Int)) rfl) vd_int (rd_eqD (b := .int 0) rfl rfl))).is ?_) (fun z => ?_) fun z => ?_)))
      · rw [eqv_int]
        by_cases h : t = 0
        · subst h; rfl
        · rw [decide_eq_false h, decide_eq_false (by omega)]
      · have z := of_decide_eq_true z
        subst z
        exact vn_lst (va_cons (vd_tup va_nil (Nat.le_of_ble_eq_true rfl)) va_nil) (Nat.le_of_ble_eq_true rfl)
      · have z := of_decide_eq_false z
        have e : splits t 0 = [] := by unfold splits; rw [if_neg z]
        rw [e]
        exact vn_lst va_nil (Nat.le_of_ble_eq_true rfl)
    | succ n =>
      have e0 : PyData.eqv (.int ((n + 1 : Nat) : Int)) (.int 0) = false := by rw [eqv_int]; exact decide_eq_false (by omega)
      refine vs_seq1 (vs_ifF ((vt_test (vd_op (vd_var (d := .int ((n + 1 : Nat) : Int)) rfl) vd_int (rd_eqD (b := .int 0) rfl rfl))).is e0) vs_next) ?_
      refine vs_newL (ds := (sfold t n 0).map encM) rfl (vn_lst va_nil (Nat.le_of_ble_eq_true rfl)) fun a ha => ⟨.ro a (As.emp.and (.lst K a ((sfold t n (t + 1)).map encM) (imA_map _ im_encM _))), .ro fun H h => ⟨trivial, ?_⟩, ?_⟩
      · obtain ⟨xs, h1, h2⟩ := h.2
        exact ⟨xs, _, h1, h2, imA_map _ im_encM _, rfl⟩
      refine vs_seq1 (vs_forT (f := fun j : Nat => .int (j : Nat)) (xs := List.range (t + 1)) (fun i => [.d (.int ((t : Nat) : Int)), .d (.int ((n + 1 : Nat) : Int)), .v (.ref a), .no, .no]) (fun i => As.emp.and (.lst K a ((sfold t n i).map encM) (imA_map _ im_encM _))) ?_ (Le.refl _) (fun H h => h) fun i z hi => ?_) ?_
      · have := vi_rng1 (K := K) (ta := tCons (tOp (rAddG K) (tVar 0) (tC (.int 1))) tNil) (env := [.d (.int ((t : Nat) : Int)), .d (.int ((n + 1 : Nat) : Int)), .v (.ref a), .no, .no]) (j := (t : Nat) + 1) (va_cons (vd_op (vd_var rfl) vd_int rd_add) va_nil) (by omega) (by omega)
        have e : (((t : Nat) : Int) + 1).toNat = t + 1 := by omega
        rw [e] at this
        exact this
      · have hz : z = i := by
          have h1 := (List.getElem?_eq_some_iff.mp hi)
          obtain ⟨h2, h3⟩ := h1
          simpa using h3.symm
        subst hz
        have hi2 : z < t + 1 := by
          have := (List.getElem?_eq_some_iff.mp hi).1
          simpa using this
        have l1 := sfold_len (n := n) ht (by omega) z (Nat.le_of_lt hi2)
        have l2 := splits_len n (t - z) (by omega)
        have l3 : 10 ^ n ≤ 10 ^ 2 := Nat.pow_le_pow_right (by decide) (by omega)
        have e1 : (sfold t n (z + 1)).map encM = (sfold t n z).map encM ++ (splits (t - z) n).map fun r => encM (z :: r) := by rw [sfold_succ, List.map_append, List.map_map]; rfl
        refine ⟨_, _, _, gd_name, (vs_extend (m' := by rw [← e1]; exact imA_map _ im_encM _) rfl List.mem_cons_self (vn_lc0 (ds := (splits (t - z) n).map encM) (os := (splits (t - z) n).map fun r => encM (z :: r)) (vi0_seqL (VN.dat ?_)) (by rw [List.length_map]; omega) (lc_map fun r hr => ⟨_, _, gd_name, by simp, vt_yes, ?_⟩)) As.off_emp (by rw [List.length_map, List.length_map]; omega)).le (.nx (fun e he => ⟨e, he, Le.refl _⟩) fun H h => ?_), ?_⟩
        · refine vn_call (PN := PshaN k) (ds := [.int ((t - z : Nat) : Int), .int (n : Nat)]) (va_cons ((vd_op (vd_var rfl) (vd_var rfl) rd_I0).is ?_) (va_cons ((vd_op (vd_var rfl) vd_int rd_I0).is ?_) va_nil)) ⟨t - z, n, by omega, by omega, by omega, rfl, rfl⟩
          · congr 1; omega
          · congr 1; omega
        · exact vb_im (d := encM (z :: r)) (vd_tup (va_cons (vd_var rfl) (va_starT (vd_var (d := .tuple (r.map fun n => .int (n : Nat))) rfl) va_nil)) (by rw [List.append_nil, List.length_cons, List.length_map, splits_mem _ _ r hr]; omega) |>.is (by rw [List.append_nil]; rfl)) (im_encM _)
        · refine ⟨trivial, ?_⟩
          obtain ⟨xs, h1, h2⟩ := h.2
          exact ⟨xs, h1, by rw [e1]; exact h2⟩
        · walk_at "le"
      · rw [List.length_range]
        exact vs_retO rfl

theorem cb_shared (W : Wd K mg) : ∀ k, Cb P w K mg base "_shared" k ["total", "many"] (spN K (PshaN k))
  | 0 => cb_none W 10 (i := 21) rfl (fun _ _ _ _ _ _ us hl => match us, hl with | [_, _], _ => rfl) fun vs H Q E h => by
    obtain ⟨ds, d, ⟨t, n, hx, _⟩, _⟩ := h
    exact absurd hx (Nat.not_lt_zero _)
  | k + 1 => cb_shared1 W (cb_shared W k)
end
end NB
end S_NbD4

section S_NbY
set_option Elab.async false
set_option linter.all false
set_option maxRecDepth 100000
set_option maxHeartbeats 4000000
namespace NB
open PySem PySem.Spec PyProof.Rows L2 PySem.W
open Evl (Ex)

/-! ### dict(zip(xs, t)): a list of ints, a tuple -/
section
variable {prog : Program} {w : World} {A : Around} {E : Value → Shared → Prop} {s : Shared} {z TI TO i1 i2 T : Addr} {fp1 fp2 : List Addr} {n1 n2 i : Nat} {P1 P2 : Nat → Value → Prop} {St1 St2 : Nat → Heap → Prop} {f : Bool} {oT : Obj}
theorem zipH_item {Q : Value → Shared → Prop} (S : ZipSep2 z TI TO i1 i2 fp1 fp2) (D1 : Draws prog w A i1 fp1 n1 P1 St1) (D2 : Draws prog w A i2 fp2 n2 P2 St2) (hz : IsZipHeld s.heap z TI TO T f) (hT : s.heap.get? T = some oT) (hTI : IsTupOf2 s.heap TI (.ref i1) (.ref i2)) (st1 : St1 i s.heap) (st2 : St2 i s.heap) (l1 : i < n1) (l2 : i < n2)
    (hQ : ∀ x y h' tk, P1 i x → P2 i y → IsZipHeld h' z TI TO T true → St1 (i + 1) h' → St2 (i + 1) h' → IsTupOf2 h' s.heap.objs.size x y → (∀ c o, c ≠ z → c ≠ i1 → c ≠ i2 → s.heap.get? c = some o → h'.get? c = some o) → Q (.ref s.heap.objs.size) { s with heap := h', toks := tk }) :
    wpAny (model prog w) A (Builtin.«zip.__next__» ⟨[.ref z], []⟩) (fun fin s' => ∃ v, fin = .done (.ret v) ∧ Q v s') E s := by
  obtain ⟨hp, g, d, tk0, os⟩ := s
  show wpAny _ _ (field (.ref z) 2 >>= _) _ _ _
  refine wpAny_bind (wpAny_field hz rfl (x := .bool false) rfl ?_)
  show wpAny _ _ (field (.ref z) 3 >>= _) _ _ _
  refine wpAny_bind (wpAny_field hz rfl (x := .ref TI) rfl ?_)
  refine wpAny_bind (wpAny_seqItems hTI rfl ?_)
  show wpAny _ _ (Builtin.SmallTypes.ownedTupleIsFree (.ref z) >>= _) _ _ _
  refine wpAny_bind (wpAny_tupleHeld_zip hz hT fun g0 z0 b0 => ?_)
  replace b0 : Heap.SameBut z hp g0 := b0
  simp only [Bool.false_eq_true, if_false]
  refine wpAny_bind ?_
  rw [← Array.forIn_toList]
  simp only [List.forIn_cons, List.forIn_nil]
  refine wpAny_bind (wpAny_bind (wpAny_holding ?_))
  show wpAny _ _ (Builtin.SmallTypes.nextOf (.ref i1) >>= _) _ _ ⟨g0, g, d, tk0, os⟩
  refine wpAny_bind (D1.item i _ _ _ l1 (D1.over st1 b0 S.zf1) fun x p1 tk1 hx sn1 b1 => wpAny_pure (wpAny_pure ?_))
  replace b1 : Heap.SameBut i1 g0 p1 := b1
  refine wpAny_bind (wpAny_bind (wpAny_holding ?_))
  show wpAny _ _ (Builtin.SmallTypes.nextOf (.ref i2) >>= _) _ _ ⟨p1, g, d, tk1, os⟩
  refine wpAny_bind (D2.item i _ _ _ l2 (D2.over (D2.over st2 b0 S.zf2) b1 S.sep1_2) fun y p2 tk2 hy sn2 b2 => wpAny_pure (wpAny_pure (wpAny_pure ?_)))
  replace b2 : Heap.SameBut i2 p1 p2 := b2
  show wpAny _ _ (newTuple [x, y] >>= _) _ _ ⟨p2, g, d, tk2, os⟩
  refine wpAny_bind (wpAny_newTuple (wpAny_pure ⟨_, rfl, ?_⟩))
  have hsz : p2.objs.size = hp.objs.size := by rw [b2.1, b1.1, b0.1]
  have z2 : IsZipHeld p2 z TI TO T true := b2.extBut _ _ S.zi2 (b1.extBut _ _ S.zi1 z0)
  have up : ∀ c o, p2.get? c = some o → (p2.push { cls := .type "tuple", data := .seq #[x, y] }).get? c = some o := fun c o e => Heap.get?_push_of_some _ e
  have hp2 : IsTupOf2 (p2.push { cls := .type "tuple", data := .seq #[x, y] }) p2.objs.size x y := Heap.get?_push_size _ rfl
  show Q (.ref p2.objs.size) ⟨p2.push { cls := .type "tuple", data := .seq #[x, y] }, g, d, tk2, os⟩
  rw [hsz] at hp2 ⊢
  exact hQ x y _ tk2 hx hy (up _ _ z2) (D1.frame _ _ _ (D1.over sn1 b2 S.sep2_1) fun b _ o e => up b o e) (D2.frame _ _ _ sn2 fun b _ o e => up b o e) hp2 fun c o c1 c2 c3 e => up c o (b2.extBut _ _ c3 (b1.extBut _ _ c2 (b0.extBut _ _ c1 e)))
theorem zipH_end {Q : Fin → Shared → Prop} (S : ZipSep2 z TI TO i1 i2 fp1 fp2) (D1 : Draws prog w A i1 fp1 n1 P1 St1) (D2 : Draws prog w A i2 fp2 n2 P2 St2) (hz : IsZipHeld s.heap z TI TO T f) (hT : s.heap.get? T = some oT) (hTI : IsTupOf2 s.heap TI (.ref i1) (.ref i2)) (st1 : St1 i s.heap) (st2 : St2 i s.heap) (l1 : i ≤ n1) (l2 : i ≤ n2) (hend : i = n1 ∨ i = n2)
    (hE : ∀ h' tk e, (∀ c o, c ≠ z → c ≠ i1 → c ≠ i2 → s.heap.get? c = some o → h'.get? c = some o) → (∃ o, h'.get? e = some o ∧ o.cls = .type "StopIteration") → E (.ref e) { s with heap := h', toks := tk }) :
    wpAny (model prog w) A (Builtin.«zip.__next__» ⟨[.ref z], []⟩) Q E s := by
  obtain ⟨hp, g, d, tk0, os⟩ := s
  show wpAny _ _ (field (.ref z) 2 >>= _) _ _ _
  refine wpAny_bind (wpAny_field hz rfl (x := .bool false) rfl ?_)
  show wpAny _ _ (field (.ref z) 3 >>= _) _ _ _
  refine wpAny_bind (wpAny_field hz rfl (x := .ref TI) rfl ?_)
  refine wpAny_bind (wpAny_seqItems hTI rfl ?_)
  show wpAny _ _ (Builtin.SmallTypes.ownedTupleIsFree (.ref z) >>= _) _ _ _
  refine wpAny_bind (wpAny_tupleHeld_zip hz hT fun g0 z0 b0 => ?_)
  replace b0 : Heap.SameBut z hp g0 := b0
  simp only [Bool.false_eq_true, if_false]
  refine wpAny_bind ?_
  rw [← Array.forIn_toList]
  simp only [List.forIn_cons, List.forIn_nil]
  refine wpAny_bind (wpAny_bind (wpAny_holding ?_))
  show wpAny _ _ (Builtin.SmallTypes.nextOf (.ref i1) >>= _) _ _ ⟨g0, g, d, tk0, os⟩
  by_cases q1 : i < n1
  · refine wpAny_bind (D1.item i _ _ _ q1 (D1.over st1 b0 S.zf1) fun x p1 tk1 hx sn1 b1 => wpAny_pure (wpAny_pure ?_))
    replace b1 : Heap.SameBut i1 g0 p1 := b1
    have hi2 : i = n2 := by omega
    refine wpAny_bind (wpAny_bind (wpAny_holding ?_))
    show wpAny _ _ (Builtin.SmallTypes.nextOf (.ref i2) >>= _) _ _ ⟨p1, g, d, tk1, os⟩
    refine wpAny_bind (D2.done ⟨p1, g, d, tk1, os⟩ _ _ (by rw [← hi2]; exact D2.over (D2.over st2 b0 S.zf2) b1 S.sep1_2) fun q e hq he => ?_)
    exact hE q tk1 e (fun c o c1 c2 c3 x => hq _ _ c3 (b1.extBut _ _ c2 (b0.extBut _ _ c1 x))) he
  · have hi1 : i = n1 := by omega
    refine wpAny_bind (D1.done ⟨g0, g, d, tk0, os⟩ _ _ (by rw [← hi1]; exact D1.over st1 b0 S.zf1) fun q e hq he => ?_)
    exact hE q tk0 e (fun c o c1 c2 c3 x => hq _ _ c2 (b0.extBut _ _ c1 x)) he
theorem nextH_item {Q : Option Value → Shared → Prop} (S : ZipSep2 z TI TO i1 i2 fp1 fp2) (D1 : Draws prog w A.in1 i1 fp1 n1 P1 St1) (D2 : Draws prog w A.in1 i2 fp2 n2 P2 St2) (hz : IsZipHeld s.heap z TI TO T f) (hT : s.heap.get? T = some oT) (hTI : IsTupOf2 s.heap TI (.ref i1) (.ref i2)) (st1 : St1 i s.heap) (st2 : St2 i s.heap) (l1 : i < n1) (l2 : i < n2)
    (hQ : ∀ x y h' tk, P1 i x → P2 i y → IsZipHeld h' z TI TO T true → St1 (i + 1) h' → St2 (i + 1) h' → IsTupOf2 h' s.heap.objs.size x y → (∀ c o, c ≠ z → c ≠ i1 → c ≠ i2 → s.heap.get? c = some o → h'.get? c = some o) → Q (some (.ref s.heap.objs.size)) { s with heap := h', toks := tk }) :
    wpAny (model prog w) A (pyNext (.ref z)) Q E s := by
  have hTy : s.TypeIs (.ref z) "zip" := ⟨_, hz, rfl⟩
  unfold pyNext
  exact wpAny_bind (wpAny_attempt (wpAny_callSpecial?_slot (name := Str.ofString "__next__") hTy F.slot_zip_next
    (wpAny_call_entry F.slot_zip_next hTy F.entry_zip_next
      (zipH_item S D1 D2 hz hT hTI st1 st2 l1 l2 fun x y h' tk a1 a2 a3 a4 a5 a6 a7 => wpAny_pure (hQ x y h' tk a1 a2 a3 a4 a5 a6 a7)) (F.args_zip_next_1 _))))
theorem nextH_end {Q : Option Value → Shared → Prop} (S : ZipSep2 z TI TO i1 i2 fp1 fp2) (D1 : Draws prog w A.in1 i1 fp1 n1 P1 St1) (D2 : Draws prog w A.in1 i2 fp2 n2 P2 St2) (hz : IsZipHeld s.heap z TI TO T f) (hT : s.heap.get? T = some oT) (hTI : IsTupOf2 s.heap TI (.ref i1) (.ref i2)) (st1 : St1 i s.heap) (st2 : St2 i s.heap) (l1 : i ≤ n1) (l2 : i ≤ n2) (hend : i = n1 ∨ i = n2)
    (hQ : ∀ h' tk, (∀ c o, c ≠ z → c ≠ i1 → c ≠ i2 → s.heap.get? c = some o → h'.get? c = some o) → Q none { s with heap := h', toks := tk }) : wpAny (model prog w) A (pyNext (.ref z)) Q E s := by
  have hTy : s.TypeIs (.ref z) "zip" := ⟨_, hz, rfl⟩
  unfold pyNext
  refine wpAny_bind (wpAny_attempt (wpAny_callSpecial?_slot (name := Str.ofString "__next__") hTy F.slot_zip_next
    (wpAny_call_entry F.slot_zip_next hTy F.entry_zip_next (zipH_end S D1 D2 hz hT hTI st1 st2 l1 l2 hend fun h' tk e hk he => ?_) (F.args_zip_next_1 _))))
  obtain ⟨o, ho, hc⟩ := he
  refine wpAny_bind (wpAny_isInstance (T := "StopIteration") (b := true) ⟨o, ho, hc⟩ isSubtype_stop ?_)
  exact wpAny_pure (hQ _ _ hk)
end
theorem seqK_at {k : Bool} {h h' : Heap} {a : Addr} {its : Array Value} (q : SeqK k h a its) (e : ∀ o, h.get? a = some o → h'.get? a = some o) : SeqK k h' a its := by
  cases k with
  | true => exact Heap.IsList.at q e
  | false => exact Heap.IsTuple.at q e
theorem seqK_there {k : Bool} {h : Heap} {a : Addr} {its : Array Value} (q : SeqK k h a its) : ∃ o, h.get? a = some o := by
  cases k with
  | true => obtain ⟨o, e, _⟩ := q; exact ⟨o, e⟩
  | false => obtain ⟨o, e, _⟩ := q; exact ⟨o, e⟩
theorem pairK {prog : Program} {w : World} (k l : Bool) (z TI TO i1 i2 a b : Addr) (D : ZipApart z TI TO i1 i2 a b) (xs ys : Array Value) :
    PairArg prog w "zip" z [z, TI, TO, i1, i2, a, b] [z, TO, i1, i2] (min xs.size ys.size) (fun i u v => xs[i]? = some u ∧ ys[i]? = some v)
      (fun h => IsZip h z TI TO .none ∧ IsTupOf2 h TI (.ref i1) (.ref i2) ∧ (∃ c d, IsTupOf2 h TO c d) ∧ ItK k h i1 a 0 ∧ ItK l h i2 b 0 ∧ SeqK k h a xs ∧ SeqK l h b ys) where
  type := fun s ok => ⟨_, ok.1, rfl⟩
  notDict := by decide
  keep := fun h h' ok hk => by
    obtain ⟨hz, hTI, ⟨c, d, hTO⟩, h1, h2, hl1, hl2⟩ := ok
    exact ⟨hk _ _ hz, hk _ _ hTI, ⟨c, d, hk _ _ hTO⟩, h1.at fun o e => hk _ o e, h2.at fun o e => hk _ o e, seqK_at hl1 fun o e => hk _ o e, seqK_at hl2 fun o e => hk _ o e⟩
  there := fun h ok c hc => by
    obtain ⟨hz, hTI, ⟨c1, d1, hTO⟩, h1, h2, hl1, hl2⟩ := ok
    obtain ⟨o1, e1, _⟩ := h1.obj
    obtain ⟨o2, e2, _⟩ := h2.obj
    obtain ⟨o3, e3⟩ := seqK_there hl1
    obtain ⟨o4, e4⟩ := seqK_there hl2
    simp only [List.mem_cons, List.not_mem_nil, or_false] at hc
    rcases hc with rfl | rfl | rfl | rfl | rfl | rfl | rfl
    all_goals first | exact ⟨_, hz⟩ | exact ⟨_, hTI⟩ | exact ⟨_, hTO⟩ | exact ⟨_, e1⟩ | exact ⟨_, e2⟩ | exact ⟨_, e3⟩ | exact ⟨_, e4⟩
  sub := fun c hc => by simp at hc ⊢; rcases hc with rfl | rfl | rfl | rfl <;> simp
  noKeys := fun A s Q E hA ok h => getAttrOr_miss_zip ok.1 rfl rfl rfl zip_no_keys (by decide +kernel) hA h
  iter := fun A s d Q E hA ok hd hdf h => by
    obtain ⟨hz, hTI, ⟨c, c', hTO⟩, h1, h2, hl1, hl2⟩ := ok
    simp only [List.mem_cons, List.not_mem_nil, or_false, not_or] at hdf
    obtain ⟨dz, dTI, dTO, di1, di2, dl1, dl2⟩ := hdf
    refine wpAny_pyIter_zip hz (h z [z, TO, i1, i2] (fun i h => IsTupOf2 h TI (.ref i1) (.ref i2) ∧ (ItK k h i1 a i ∧ SeqK k h a xs) ∧ (ItK l h i2 b i ∧ SeqK l h b ys) ∧
      ((IsZip h z TI TO .none ∧ ∃ c d, IsTupOf2 h TO c d) ∨ ∃ T f oT, IsZipHeld h z TI TO T f ∧ h.get? T = some oT ∧ T ≠ z ∧ T ≠ i1 ∧ T ≠ i2 ∧ T ≠ d)) s.heap s.toks ?_
      ⟨hTI, ⟨h1, hl1⟩, ⟨h2, hl2⟩, .inl ⟨hz, c, c', hTO⟩⟩ (fun _ _ e => e) fun b hb => .inl hb)
    have D1 := draws_k (prog := prog) (w := w) (A := A.in1) hA k i1 a D.l1i1 xs
    have D2 := draws_k (prog := prog) (w := w) (A := A.in1) hA l i2 b D.l2i2 ys
    exact {
      off := fun hm => by
        simp only [List.mem_cons, List.not_mem_nil, or_false] at hm
        rcases hm with e | e | e | e
        · exact dz e
        · exact dTO e
        · exact di1 e
        · exact di2 e
      frame := fun i g1 g2 st hk => by
        obtain ⟨hTI, h1, h2, hz⟩ := st
        refine ⟨hk _ _ (Ne.symm dTI) hTI, ⟨h1.1.at fun o e => hk _ o (Ne.symm di1) e, seqK_at h1.2 fun o e => hk _ o (Ne.symm dl1) e⟩, ⟨h2.1.at fun o e => hk _ o (Ne.symm di2) e, seqK_at h2.2 fun o e => hk _ o (Ne.symm dl2) e⟩, ?_⟩
        rcases hz with ⟨hz, c, c', hTO⟩ | ⟨T, f, oT, hz, hT, r1, r2, r3, r4⟩
        · exact .inl ⟨hk _ _ (Ne.symm dz) hz, c, c', hk _ _ (Ne.symm dTO) hTO⟩
        · exact .inr ⟨T, f, oT, hk _ _ (Ne.symm dz) hz, hk _ _ r4 hT, r1, r2, r3, r4⟩
      item := fun i s1 Q1 E1 hi st hds hQ => by
        obtain ⟨hTI, h1, h2, hz⟩ := st
        have hix : i < xs.size := Nat.lt_of_lt_of_le hi (Nat.min_le_left ..)
        have hiy : i < ys.size := Nat.lt_of_lt_of_le hi (Nat.min_le_right ..)
        have lt : ∀ {c o}, s1.heap.get? c = some o → s1.heap.objs.size ≠ c := fun e => Nat.ne_of_gt (Heap.lt_size e)
        have n1 : s1.heap.objs.size ≠ i1 := let ⟨_, e, _⟩ := h1.1.obj; lt e
        have n2 : s1.heap.objs.size ≠ i2 := let ⟨_, e, _⟩ := h2.1.obj; lt e
        rcases hz with ⟨hz, c, c', hTO⟩ | ⟨T, f, oT, hz, hT, r1, r2, r3, r4⟩
        · refine wpAny_pyNext_zipD2_item (sep_of D) D1 D2 hz hTI hTO h1 h2 hix hiy fun x y h' tk e1 e2 a1 a2 a3 a4 a5 a6 hk => ?_
          exact hQ s1.heap.objs.size x y h' tk ⟨e1, e2⟩ (.inl ⟨_, a5, rfl, _, rfl⟩)
            ⟨hk _ _ D.TIz D.TITO D.TIi1 D.TIi2 hTI, a3, a4, .inr ⟨s1.heap.objs.size, false, _, a1, a5, lt hz, n1, n2, Nat.ne_of_gt hds⟩⟩
            fun c o hc e => hk c o (fun x => hc (by simp [x])) (fun x => hc (by simp [x])) (fun x => hc (by simp [x])) (fun x => hc (by simp [x])) e
        · refine nextH_item (sep_of D) D1 D2 hz hT hTI h1 h2 hix hiy fun x y h' tk e1 e2 a1 a3 a4 a5 hk => ?_
          exact hQ s1.heap.objs.size x y h' tk ⟨e1, e2⟩ (.inl ⟨_, a5, rfl, _, rfl⟩)
            ⟨hk _ _ D.TIz D.TIi1 D.TIi2 hTI, a3, a4, .inr ⟨T, true, oT, a1, hk _ _ r1 r2 r3 hT, r1, r2, r3, r4⟩⟩
            fun c o hc e => hk c o (fun x => hc (by simp [x])) (fun x => hc (by simp [x])) (fun x => hc (by simp [x])) e
      done := fun s1 Q1 E1 st hQ => by
        obtain ⟨hTI, h1, h2, hz⟩ := st
        rcases hz with ⟨hz, c, c', hTO⟩ | ⟨T, f, oT, hz, hT, r1, r2, r3, r4⟩
        · exact wpAny_pyNext_zipD2_end (sep_of D) D1 D2 hz hTI hTO h1 h2 (by omega) (by omega) (by omega) fun h' tk hk => hQ h' tk fun c o hc e => hk c o (fun x => hc (by simp [x])) (fun x => hc (by simp [x])) (fun x => hc (by simp [x])) (fun x => hc (by simp [x])) e
        · exact nextH_end (sep_of D) D1 D2 hz hT hTI h1 h2 (by omega) (by omega) (by omega) fun h' tk hk => hQ h' tk fun c o hc e => hk c o (fun x => hc (by simp [x])) (fun x => hc (by simp [x])) (fun x => hc (by simp [x])) e }
def kvZ (ns : List Int) (ys : List V) : List (Key × V) := (ns.zip ys).map fun q => (Sum.inl q.1, q.2)
def rDZip (K : PySem.W.Frag) : List V → Hp → VK → Prop := fun vs H Q => ∃ (k l : Bool) (a b : Addr) (ns : List Int) (ys : List V), vs = [.ref a, .ref b] ∧ SqK k K H a (ns.map V.int) ∧ SqK l K H b ys ∧ ns.length ≤ 1000 ∧
  ∀ p, H p = none → Q (.ref p) (upd H p (.dK (mergeK [] (kvZ ns ys))))
theorem kv_zip : ∀ {ns : List Int} {ys : List V} {us : List Value} {vs : List Value}, Vals (ns.map V.int) us → Vals ys vs →
    ∃ rs : List (Key × Value), KV (kvZ ns ys) rs ∧ rs.length = min us.length vs.length ∧ ∀ (i : Nat) (u v : Value), us[i]? = some u → vs[i]? = some v → ∃ (n : Int) (t : Tok), rs[i]? = some (Sum.inl n, v) ∧ u = Value.int n t
  | [], _, _, _, r, _ => by
    cases r
    exact ⟨[], .nil, by simp, fun i u v h => by simp at h⟩
  | _ :: _, [], _, _, _, r => by
    cases r
    exact ⟨[], .nil, by simp, fun i u v _ h => by simp at h⟩
  | n :: ns, y :: ys, us, vs, r, q => by
    rw [List.map_cons] at r
    cases r with
    | cons r1 r2 =>
      cases q with
      | cons q1 q2 =>
        obtain ⟨t, rfl⟩ := r1
        obtain ⟨rs, h1, h2, h3⟩ := kv_zip r2 q2
        refine ⟨(Sum.inl n, _) :: rs, .cons ⟨rfl, q1⟩ h1, by rw [List.length_cons, h2, List.length_cons, List.length_cons]; omega, fun i u v hu hv => ?_⟩
        cases i with
        | zero => simp at hu hv; subst hu hv; exact ⟨n, t, rfl, rfl⟩
        | succ i => exact h3 i u v (by simpa using hu) (by simpa using hv)
theorem pe_dzip {X : Cx} {e e2 : Expr} {ta : TA} {p p2 pos pos2 : Pos} (hc : X.calm = true) (hg : Gl X "dict") (hm : X.mg "dict" = none) (hg2 : Gl X "zip") (hm2 : X.mg "zip" = none) (ha : PA X [e, e2] ta)
    (hs : starEach [e, e2] X.env = (false, eval e X.env) :: starEach [e2] X.env := by rfl) (hpl : (backTo pos2 (starEach [e2] X.env)).any (·.1) = false := by rfl)
    (hs1 : starEach [.Call (.Name "zip" p2) [e, e2] [] pos2] X.env = (false, eval (.Call (.Name "zip" p2) [e, e2] [] pos2) X.env) :: starEach [] X.env := by rfl) (hpl1 : (backTo pos (starEach [] X.env)).any (·.1) = false := by rfl) :
    PE X (.Call (.Name "dict" p) [.Call (.Name "zip" p2) [e, e2] [] pos2] [] pos) (tCB (rDZip X.K) ta) := by
  refine ⟨fun pins s σ H Q I h => ?_⟩
  refine wpAny_Call_Name_kw (ld_blt (u := .type "dict") I hg hm (by decide +kernel) ?_ (by decide) (by decide))
  refine PyProof.Rows.callWith_type1 ?_ hs1 hpl1
  rw [hs1]
  show wpAny _ _ (spliced ((false, eval _ X.env) :: backTo pos (starEach [] X.env))) _ _ s
  refine Calls.spliced_cons ?_
  refine Call_ (ld_blt I hg2 hm2 PyProof.Rows.boot_zip (PyProof.Rows.callWith_type1 (thn (ha.run pos2 pins s σ H _ I h) fun us s1 ⟨vs, H1, I1, r1, q1⟩ => ?_) hs hpl))
  obtain ⟨k, l, a, b, ns, ys, ex, hqx, hqy, hl, q⟩ := q1
  subst ex
  cases r1 with
  | cons r rr =>
    cases rr with
    | cons r' rr =>
      cases rr
      cases r
      cases r'
      obtain ⟨its, rv, p1⟩ := seqK I1 hqx
      obtain ⟨its2, rv2, p2⟩ := seqK I1 hqy
      refine zip_begins2 (begins_k k a its.toArray) (begins_k l b its2.toArray) p1 p2 fun h' hz hTI hTO h1 h2 hsz hk => Calls.spliced_nil ?_
      obtain ⟨rs, kv, kl, kr⟩ := kv_zip rv rv2
      have hm0 : (h'.objs.size == sysModules) = false := beq_eq_false_iff_ne.mpr (Nat.ne_of_gt (Nat.lt_of_lt_of_le I1.big (by rw [hsz]; exact Nat.le_add_right _ _)))
      have hl1 : rs.length ≤ 1000 := by
        have := rv.length
        rw [List.length_map] at this
        omega
      refine call_dict_pairs (knd := mixKind X.prog X.w) (s := { s1 with heap := h' }) (kvs := rs) (pairK k l _ _ _ _ _ a b (PySem.W.ktu_apart s1.heap.objs.size a b p1.lt p2.lt) its.toArray its2.toArray) (I.ok.hd hc) ⟨hz, hTI, ⟨_, _, hTO⟩, ItK.new h1, ItK.new h2, seqK_at p1 fun o e => hk _ o e, seqK_at p2 fun o e => hk _ o e⟩ ⟨by rw [kl]; simp, fun i u v hr => ?_⟩ (by rw [List.size_toArray, List.size_toArray, ← kl]; exact Nat.le_trans hl1 (by decide)) fun h2' tk hd' k2 => ?_
      · obtain ⟨n, t, e1, e2⟩ := kr i u v (by simpa using hr.1) (by simpa using hr.2)
        subst e2
        exact ⟨Sum.inl n, e1, by show ((n : Int) == n) = true; exact beq_self_eq_true n⟩
      · have hlen : (mergeK [] (kvZ ns ys)).length ≤ sizeLine := by
          refine Nat.le_trans (length_mergeK (kvZ ns ys) []) ?_
          rw [List.length_nil, Nat.zero_add]
          unfold kvZ
          rw [List.length_map, List.length_zip]
          exact Nat.le_trans (Nat.le_trans (Nat.min_le_left _ _) hl) (by decide)
        have kk : ∀ c o, s1.heap.get? c = some o → h2'.get? c = some o := fun c o e => by
          have hlt : c < s1.heap.objs.size := Heap.lt_size e
          refine k2 c o (fun hm => ?_) (hk c o e)
          have e' : c = s1.heap.objs.size + 4 ∨ c = s1.heap.objs.size + 3 ∨ c = s1.heap.objs.size ∨ c = s1.heap.objs.size + 1 := by simpa using hm
          rcases e' with z | z | z | z
          · rw [z] at hlt; exact absurd hlt (Nat.not_lt.mpr (Nat.le_add_right _ _))
          · rw [z] at hlt; exact absurd hlt (Nat.not_lt.mpr (Nat.le_add_right _ _))
          · rw [z] at hlt; exact absurd hlt (Nat.lt_irrefl _)
          · rw [z] at hlt; exact absurd hlt (Nat.not_lt.mpr (Nat.le_add_right _ _))
        have hge : s1.heap.objs.size ≤ h'.objs.size := by rw [hsz]; exact Nat.le_add_right _ _
        exact ⟨.ref h'.objs.size, upd H1 h'.objs.size (.dK (mergeK [] (kvZ ns ys))), I1.laid (t' := tk) kk hge (show ObjOk X.prog X.w _ _ _ (.dK (mergeK [] (kvZ ns ys))) from ⟨hlen, hm0, merged [] rs, KV.merge kv .nil, hd'⟩), rfl, q _ (I1.hok.fresh hge)⟩
/-- the last of the pairs with that key -/
def shr : List (Int × Int) → Int → Option Int → Option Int
  | [], _, o => o
  | p :: l, n, o => shr l n (if p.1 = n then some p.2 else o)
theorem val_put (kvs : List (Key × V)) (k j : Key) (v : V) : valV (putK kvs k v) j = if k = j then some v else valV kvs j := by
  rw [valV_put]
  by_cases h : k = j
  · rw [if_pos h, if_pos h.symm]
  · rw [if_neg h, if_neg (fun e => h e.symm)]
theorem val_merge : ∀ (ns ms : List Int) (acc : List (Key × V)) (n : Int) (o : Option Int), valV acc (Sum.inl n) = o.map V.int → valV (mergeK acc (kvZ ns (ms.map V.int))) (Sum.inl n) = (shr (ns.zip ms) n o).map V.int
  | [], ms, acc, n, o, h => by
    show valV acc _ = _
    rw [h]; rfl
  | _ :: _, [], acc, n, o, h => by
    show valV acc _ = _
    rw [h]; rfl
  | k :: ns, m :: ms, acc, n, o, h => by
    show valV (mergeK (putK acc (Sum.inl k) (V.int m)) (kvZ ns (ms.map V.int))) (Sum.inl n) = (shr (ns.zip ms) n (if k = n then some m else o)).map V.int
    refine val_merge ns ms _ n _ ?_
    rw [val_put]
    by_cases e : k = n
    · rw [if_pos (by rw [e]), if_pos e]; rfl
    · rw [if_neg (fun z => e (Sum.inl.inj z)), if_neg e]; exact h
def Sl.dz (l : List (Int × Int)) : Sl := .o (fun v H => ∃ a kvs, v = .ref a ∧ H a = some (.dK kvs) ∧ ∀ n, valV kvs (Sum.inl n) = (shr l n none).map V.int) fun _ _ _ e ⟨a, kvs, h1, h2, h3⟩ => ⟨a, kvs, h1, e _ _ h2, h3⟩
section
variable {K : PySem.W.Frag} {O : List Addr} {F : As} {env : List Sl} {ta tb tz : TE} {i : Nat} {k l : Bool}
theorem vs_dz {ns ms : List Int} (h1 : VD K ta env (dk k (ns.map .int))) (h2 : VD K tb env (dk l (ms.map .int))) (hl : ns.length ≤ 1000) : VS K O F (tAsg (tCB (rDZip K) (tCons ta (tCons tb tNil))) (gName i)) env (.nx (· = env.set i (.dz (ns.zip ms))) F) := fun D σ H z q =>
  h1 σ H z.s H (Ex.refl _) _ fun x H2 e2 hx => h2 σ H z.s H2 e2 _ fun y H3 e3 hy => by
    obtain ⟨a, xs, rfl, p1, p2⟩ := dt_k (Dt.ex e3 _ _ hx)
    obtain ⟨b, ys, rfl, p3, p4⟩ := dt_k hy
    rw [dta_ints p2] at p1
    rw [dta_ints p4] at p3
    refine ⟨k, l, a, b, ns, ms.map V.int, rfl, p1, p3, hl, fun p hp => ?_⟩
    have z3 := z.ex ((e2.trans e3).trans (Ex.new hp) : Ex H (upd H3 p (.dK (mergeK [] (kvZ ns (ms.map V.int))))))
    have np : p ∉ O := (z.ex (e2.trans e3)).fresh hp
    refine q _ _ _ rfl (XO.of ((e2.trans e3).trans (Ex.new hp))) ⟨z3.own, z3.sg.setSl (x := .dz (ns.zip ms)) ⟨_, rfl, p, mergeK [] (kvZ ns (ms.map V.int)), rfl, ?_, fun n => ?_⟩ i, z3.as⟩
    · rw [Bs_out np]; exact upd_same
    · exact val_merge ns ms [] n none rfl
theorem vd_dzget {l : List (Int × Int)} {n z : Int} (hi : env[i]? = some (.dz l)) (h1 : VD K ta env (.int n)) (h2 : VD K tz env (.int z)) : VD K (tDGet2 (tVar i) ta tz) env (.int ((shr l n none).getD z)) := fun σ B s H1 e Q q => by
  obtain ⟨v, h, a, kvs, rfl, hk, hv⟩ := s.getO hi
  refine ⟨_, h, a, rfl, .inl ⟨kvs, .inl (e _ _ hk)⟩, h1 σ B s H1 e _ fun x H2 e2 hx => h2 σ B s H2 (e.trans e2) _ fun y H3 e3 hy => ?_⟩
  rw [dt_int hx]
  refine ⟨valV kvs (Sum.inl n), DGet.k (k := Sum.inl n) (e3 _ _ (e2 _ _ (e _ _ hk))), ?_⟩
  rw [hv n, dt_int hy]
  generalize shr l n none = o at q
  cases o with
  | none => exact q _ H3 (e2.trans e3) (.int z)
  | some m => exact q _ H3 (e2.trans e3) (.int m)
end
section
variable {X : Cx} {K : PySem.W.Frag} {e e2 : Expr} {ta : TA} {p p2 pos pos2 : Pos}
theorem pe_dzipX (hK : X.K = K) (hc : X.calm = true) (hg : Gl X "dict") (hm : X.mg "dict" = none) (hg2 : Gl X "zip") (hm2 : X.mg "zip" = none) (ha : PA X [e, e2] ta)
    (hs : starEach [e, e2] X.env = (false, eval e X.env) :: starEach [e2] X.env := by rfl) (hpl : (backTo pos2 (starEach [e2] X.env)).any (·.1) = false := by rfl)
    (hs1 : starEach [.Call (.Name "zip" p2) [e, e2] [] pos2] X.env = (false, eval (.Call (.Name "zip" p2) [e, e2] [] pos2) X.env) :: starEach [] X.env := by rfl) (hpl1 : (backTo pos (starEach [] X.env)).any (·.1) = false := by rfl) :
    PE X (.Call (.Name "dict" p) [.Call (.Name "zip" p2) [e, e2] [] pos2] [] pos) (tCB (rDZip K) ta) := by subst hK; exact pe_dzip hc hg hm hg2 hm2 ha hs hpl hs1 hpl1
end
theorem rg_lenK {K : PySem.W.Frag} {k : Bool} {ds : List PyData} : RCD K (rLenG K) [dk k ds] (.int (ds.length : Nat)) := by
  cases k with
  | true => exact rg_lenL
  | false => exact rg_lenT
end NB
end S_NbY

section S_NbD5
set_option Elab.async false
set_option linter.all false
set_option maxRecDepth 100000
set_option maxHeartbeats 4000000
set_option exponentiation.threshold 100000
namespace NB
open PySem PySem.Spec PyProof.Rows L2
local macro_rules | `(tactic| walk_at "vd") => `(tactic| repeat' (first
  | exact vd_var rfl | exact vd_int | exact vd_bl | exact va_nil | exact vba_nil | exact vt_yes
  | with_reducible apply va_cons | with_reducible apply vt_test | with_reducible apply vt_not | with_reducible apply vt_B
  | with_reducible apply vd_tup | with_reducible apply vd_cb | with_reducible apply vd_op | with_reducible apply vd_un
  | exact rd_add | exact rd_ix0 rfl | exact rd_ix1 rfl | exact rd_I0 | exact rd_B0 | exact ru_I
  | exact rg_lenT | exact rg_lenL | exact rc_abs | exact rc_gcd
  | exact Nat.le_of_ble_eq_true rfl))
local macro_rules | `(tactic| walk_at "le") => `(tactic| repeat (first | exact Le.nil | apply Le.same | apply Le.drop))
section
variable {P : Program} {w : World} {K : PySem.W.Frag} {mg : Str → Option Value} {base : Heap}
/-! rows at any depth whose leaves are ints -/
def lfi : PyData → Bool
  | .list ds => decide (ds.length ≤ 100000) && lfiA ds
  | .tuple ds => decide (ds.length ≤ 100000) && lfiA ds
  | .int _ => true
  | _ => false
where lfiA : List PyData → Bool
  | [] => true
  | d :: ds => lfi d && lfiA ds
theorem lfiA_all : ∀ ds : List PyData, lfi.lfiA ds = ds.all lfi
  | [] => rfl
  | d :: ds => by
    show (lfi d && lfi.lfiA ds) = _
    rw [lfiA_all ds]; rfl
def PsameD (k : Nat) (ds : List PyData) (d : PyData) : Prop := ∃ x, x.depth < k ∧ lfi x = true ∧ ds = [x, x] ∧ d = .bool true
theorem zipD_self : ∀ es : List PyData, zipD es es = es.map fun e => .tuple [e, e]
  | [] => rfl
  | e :: es => by
    show .tuple [e, e] :: zipD es es = _
    rw [zipD_self es]; rfl

theorem sc_law_same : FnScope ["_law_mine", "_law_due", "_law_one", "_law_two"] ["_law_mine", "_law_due"] (defScope (topS 29)) := ⟨rfl, rfl, rfl, by decide +kernel, rfl, by decide +kernel, by decide +kernel⟩
theorem cb_law_same1 {k : Nat} (W : Wd K mg) (c__law_same : Cb P w K mg base "_law_same" k ["_law_mine", "_law_due"] (spD K (PsameD k))) : Cb P w K mg base "_law_same" (k + 1) ["_law_mine", "_law_due"] (spD K (PsameD (k + 1))) := by
  refine mk_cb W 17 (i := 29) rfl sc_law_same (fun _ _ _ _ _ _ us hl => match us, hl with | [_, _], _ => rfl) (fun vs H Q E h => ?_) fun f cdv A outer s H vs Q E hr h => ⟨_, PSs.nox (
    (pss_cons (ps_if (pt_val (pe_callB (cr_isiTX (K := K) rfl) (by rfl) (W.free "isinstance") (by decide +kernel) (pa_cons (pv 1) (pa_cons (pe_tup (pa_cons (pe_bltn (v := .ty "list") (u := .type "list") rfl (W.free "list") (by decide +kernel) rfl) (pa_cons (pe_bltn (v := .ty "tuple") (u := .type "tuple") rfl (W.free "tuple") (by decide +kernel) rfl) pa_nil))) pa_nil)))) (pss_cons (ps_if (PW.pt (pw_or (pt_cmpR (op_neX (K := K) rfl hr.units) (pe_callB (cr_isiX (K := K) rfl) (by rfl) (W.free "isinstance") (by decide +kernel) (pa_cons (pv 0) (pa_cons (pe_bltn (v := .ty "list") (u := .type "list") rfl (W.free "list") (by decide +kernel) rfl) pa_nil))) (pe_callB (cr_isiX (K := K) rfl) (by rfl) (W.free "isinstance") (by decide +kernel) (pa_cons (pv 1) (pa_cons (pe_bltn (v := .ty "list") (u := .type "list") rfl (W.free "list") (by decide +kernel) rfl) pa_nil))) (nomark _)) (pw_or1 (pt_cmpR (op_neX (K := K) rfl hr.units) (pe_callB (cr_isiX (K := K) rfl) (by rfl) (W.free "isinstance") (by decide +kernel) (pa_cons (pv 0) (pa_cons (pe_bltn (v := .ty "tuple") (u := .type "tuple") rfl (W.free "tuple") (by decide +kernel) rfl) pa_nil))) (pe_callB (cr_isiX (K := K) rfl) (by rfl) (W.free "isinstance") (by decide +kernel) (pa_cons (pv 1) (pa_cons (pe_bltn (v := .ty "tuple") (u := .type "tuple") rfl (W.free "tuple") (by decide +kernel) rfl) pa_nil))) (nomark _))))) (pss_one (ps_ret pe_bl)) pss_nil)
  (pss_one (ps_ret (pe_and (pe_cmpR (op_eqX (K := K) rfl hr.units) (pe_callB (cr_lenX (K := K) rfl) (by rfl) (W.free "len") (by decide +kernel) (pa_cons (pv 0) pa_nil)) (pe_callB (cr_lenX (K := K) rfl) (by rfl) (W.free "len") (by decide +kernel) (pa_cons (pv 1) pa_nil)) (nomark _)) (pe_one (pe_callB (cr_allX (K := K) rfl rfl) (by rfl) (W.free "all") (by decide +kernel) (pa_cons (pe_lc (own := [("_law_one", 2), ("_law_two", 3)]) rfl sc_law_same.nd (pi_zipX (K := K) rfl rfl (W.free "zip") (pa_cons (pv 0) (pa_cons (pv 1) pa_nil))) (blkOk_by (N := ["_law_mine", "_law_due", "_law_one", "_law_two"]) (sc := defScope (topS 29)) (by decide +kernel)) (fun _ _ _ _ _ => (pg_tupX (n := 2) (K := K) rfl rfl (pgs_cons (pg_name (i := 2) sc_law_same.nd rfl (by first | exact Or.inl rfl | exact Or.inr rfl)) (pgs_cons (pg_name (i := 3) sc_law_same.nd rfl (by first | exact Or.inl rfl | exact Or.inr rfl)) pgs_nil)))) (fun _ _ _ _ _ => pts_nil) (fun _ _ _ _ _ => (pe_cb c__law_same (hr.mono (by omega)) rfl (pa_cons (pv 2) (pa_cons (pv 3) pa_nil))))) pa_nil))))))) pss_nil)
  (pss_cons (ps_if (PW.pt (pw_or (pt_cmpR op_isG (pv 1) pe_non (nomark _)) (pw_or1 (pt_val (pe_callB (cr_isiTX (K := K) rfl) (by rfl) (W.free "isinstance") (by decide +kernel) (pa_cons (pv 1) (pa_cons (pe_tup (pa_cons (pe_bltn (v := .ty "bool") (u := .type "bool") rfl (W.free "bool") (by decide +kernel) rfl) (pa_cons (pe_bltn (v := .ty "str") (u := .type "str") rfl (W.free "str") (by decide +kernel) rfl) pa_nil))) pa_nil))))))) (pss_one (ps_ret (pe_and (pe_cmpR (op_eqX (K := K) rfl hr.units) (pv 0) (pv 1) (nomark _)) (pe_and (pe_cmpR (op_eqX (K := K) rfl hr.units) (pe_callB (cr_isiX (K := K) rfl) (by rfl) (W.free "isinstance") (by decide +kernel) (pa_cons (pv 0) (pa_cons (pe_bltn (v := .ty "bool") (u := .type "bool") rfl (W.free "bool") (by decide +kernel) rfl) pa_nil))) (pe_callB (cr_isiX (K := K) rfl) (by rfl) (W.free "isinstance") (by decide +kernel) (pa_cons (pv 1) (pa_cons (pe_bltn (v := .ty "bool") (u := .type "bool") rfl (W.free "bool") (by decide +kernel) rfl) pa_nil))) (nomark _)) (pe_one (pe_cmpR (op_eqX (K := K) rfl hr.units) (pe_cmpR op_isG (pv 0) pe_non (nomark _)) (pe_cmpR op_isG (pv 1) pe_non (nomark _)) (nomark _))))))) pss_nil)
  (pss_one (ps_ret (pe_and (pe_callB (cr_isiX (K := K) rfl) (by rfl) (W.free "isinstance") (by decide +kernel) (pa_cons (pv 0) (pa_cons (pe_bltn (v := .ty "int") (u := .type "int") rfl (W.free "int") (by decide +kernel) rfl) pa_nil))) (pe_and (pe_not (pe_callB (cr_isiX (K := K) rfl) (by rfl) (W.free "isinstance") (by decide +kernel) (pa_cons (pv 0) (pa_cons (pe_bltn (v := .ty "bool") (u := .type "bool") rfl (W.free "bool") (by decide +kernel) rfl) pa_nil)))) (pe_one (pe_cmpR (op_eqX (K := K) rfl hr.units) (pv 0) (pv 1) (nomark _)))))))))), body_D (F := As.emp) (fun ds d p => ?_) h⟩
  · obtain ⟨ds, d, p, hd, _⟩ := h
    rw [hd.len]
    obtain ⟨x, hx, hl, rfl, rfl⟩ := p
    rfl
  · obtain ⟨x, hx, hl, rfl, rfl⟩ := p
    by_cases h : ∃ k es, x = dk k es
    · obtain ⟨b, es, rfl⟩ := h
      have h2 : es.length ≤ 100000 ∧ ∀ d ∈ es, d.depth < k ∧ lfi d = true := by
        have h3 : (decide (es.length ≤ 100000) && lfi.lfiA es) = true := by cases b <;> exact hl
        rw [Bool.and_eq_true, lfiA_all, List.all_eq_true] at h3
        refine ⟨of_decide_eq_true h3.1, fun d hd => ⟨?_, h3.2 d hd⟩⟩
        have h4 := dep_in hd
        cases b with
        | true =>
          have h5 : (PyData.list es).depth < k + 1 := hx
          simp [PyData.depth] at h5
          omega
        | false =>
          have h5 : (PyData.tuple es).depth < k + 1 := hx
          simp [PyData.depth] at h5
          omega
      refine vs_seqR (vs_ifT ((vt_B (vd_isi2 (vd_var rfl))).is (by cases b <;> rfl)) ?_)
      refine vs_seq1 (vs_ifF ((vt_or (a := false) (b := false) ((vt_test (vd_op (vd_isi (vd_var rfl)) (vd_isi (vd_var rfl)) (rd_neD rfl rfl))).is (by cases b <;> rfl)) fun _ => (vt_test (vd_op (vd_isi (vd_var rfl)) (vd_isi (vd_var rfl)) (rd_neD rfl rfl))).is (by cases b <;> rfl))) vs_next) ?_
      refine vs_ret0 (vd_andV (a := true) (b := true) ?_ fun _ => ?_)
      · refine VD.is (vd_op (vd_cb (va_cons (vd_var rfl) va_nil) (rg_lenK (k := b) (ds := es))) (vd_cb (va_cons (vd_var rfl) va_nil) (rg_lenK (k := b) (ds := es))) (rd_eqD rfl rfl)) ?_
        rw [eqv_int, decide_eq_true rfl]
      · refine VD.is (vd_cb (va_cons (VN.dat (vn_lc (os := (es.map fun _ => true).map .bool) ((vi_zip (k := b) (l := b) (vb_var rfl) (vb_var rfl)).is (zipD_self es)) (by rw [List.length_map, List.length_map]; exact h2.1) ?_)) va_nil) rc_allL) ?_
        · rw [List.map_map]
          exact lc_map fun e he => ⟨_, _, gd_tup (gds_cons gd_name (gds_cons gd_name gds_nil)) rfl, by simp, vt_yes, vb_im (vd_call (va_cons (vd_var rfl) (va_cons (vd_var rfl) va_nil)) ⟨e, (h2.2 e he).1, (h2.2 e he).2, rfl, rfl⟩) rfl⟩
        · have : ((es.map fun _ => true).all id) = true := by
            rw [List.all_eq_true]
            intro c hc
            obtain ⟨_, _, rfl⟩ := List.mem_map.mp hc
            rfl
          rw [this]
    · have hi : ∃ i, x = .int i := by
        cases x with
        | int i => exact ⟨i, rfl⟩
        | list es => exact absurd ⟨true, es, rfl⟩ h
        | tuple es => exact absurd ⟨false, es, rfl⟩ h
        | _ => cases hl
      obtain ⟨i, rfl⟩ := hi
      refine vs_seq1 (vs_ifF ((vt_B (vd_isi2 (vd_var rfl))).is rfl) vs_next) ?_
      refine vs_seq1 (vs_ifF (vt_or (a := false) (b := false) ((vt_test (vd_op (vd_var rfl) (vd_c fun H => .non) rd_isN)).is rfl) fun _ => (vt_B (vd_isi2 (vd_var rfl))).is rfl) vs_next) ?_
      refine vs_ret0 (vd_andV (a := true) (b := true) ((vd_isi (vd_var rfl)).is rfl) fun _ => vd_andV (a := true) (b := true) ((vd_notV (vd_isi (vd_var rfl))).is rfl) fun _ => ?_)
      refine VD.is (vd_op (vd_var rfl) (vd_var rfl) (rd_eqD rfl rfl)) ?_
      rw [eqv_int, decide_eq_true rfl]

theorem cb_law_same (W : Wd K mg) : ∀ k, Cb P w K mg base "_law_same" k ["_law_mine", "_law_due"] (spD K (PsameD k))
  | 0 => cb_none W 17 (i := 29) rfl (fun _ _ _ _ _ _ us hl => match us, hl with | [_, _], _ => rfl) fun vs H Q E h => by
    obtain ⟨ds, d, ⟨x, hx, _⟩, _⟩ := h
    exact absurd hx (Nat.not_lt_zero _)
  | k + 1 => cb_law_same1 W (cb_law_same W k)
end
end NB
end S_NbD5

section S_NbG
set_option Elab.async false
set_option linter.all false
set_option maxRecDepth 100000
set_option maxHeartbeats 4000000
namespace NB
open PySem PySem.Spec PyProof.Rows L2 PySem.W
open Evl (Ex)

/-! ### a dict of lists that is filled by d.setdefault(k, []).append(v) -/
section
variable {κ ν : Type} [DecidableEq κ]
/-- grouped by key, in order -/
def grp (l : List (κ × List ν)) (k : κ) (v : ν) : List (κ × List ν) := put l k ((lk l k).getD [] ++ [v])
theorem put_eq {β : Type} {a k : κ} {w v : β} {r : List (κ × β)} (h : a = k) : put ((a, w) :: r) k v = (a, v) :: r := if_pos h
theorem put_ne {β : Type} {a k : κ} {w v : β} {r : List (κ × β)} (h : ¬ a = k) : put ((a, w) :: r) k v = (a, w) :: put r k v := if_neg h
theorem lk_eq {β : Type} {a k : κ} {w : β} {r : List (κ × β)} (h : a = k) : lk ((a, w) :: r) k = some w := if_pos h
theorem lk_ne {β : Type} {a k : κ} {w : β} {r : List (κ × β)} (h : ¬ a = k) : lk ((a, w) :: r) k = lk r k := if_neg h
theorem put_put {β : Type} (k : κ) (v u : β) : ∀ l : List (κ × β), put (put l k v) k u = put l k u
  | [] => by
    show put [(k, v)] k u = _
    rw [put_eq rfl]; rfl
  | (a, w) :: r => by
    by_cases e : a = k
    · rw [put_eq e, put_eq e, put_eq e]
    · rw [put_ne e, put_ne e, put_ne e, put_put k v u r]
theorem grp_new {l : List (κ × List ν)} {k : κ} {v : ν} (h : lk l k = none) : grp (put l k []) k v = grp l k v := by
  unfold grp
  rw [lk_put, if_pos rfl, put_put, h]
  rfl
theorem grp_len {α : Type} {ck : α → κ} {cv : α → ν} {n : Nat} : ∀ (zs : List α) (l : List (κ × List ν)), (∀ p ∈ l, p.2.length ≤ n) → ∀ p ∈ zs.foldl (fun l x => grp l (ck x) (cv x)) l, p.2.length ≤ n + zs.length
  | [], l, h, p, hp => Nat.le_trans (h p hp) (Nat.le_add_right _ _)
  | z :: zs, l, h, p, hp => by
    rw [List.foldl_cons] at hp
    have := grp_len (n := n + 1) (ck := ck) (cv := cv) zs (grp l (ck z) (cv z)) (fun q hq => ?_) p hp
    · rw [List.length_cons]; omega
    · unfold grp at hq
      have key : ∀ {l : List (κ × List ν)} {k : κ} {v : List ν} {q : κ × List ν}, q ∈ put l k v → q ∈ l ∨ q = (k, v) := by
        intro l k v q
        induction l with
        | nil => intro h; exact .inr (List.mem_singleton.mp h)
        | cons a r ih =>
          intro h
          obtain ⟨a, w⟩ := a
          by_cases e : a = k
          · rw [put_eq e] at h
            rcases List.mem_cons.mp h with h | h
            · exact .inr (by rw [h, e])
            · exact .inl (List.mem_cons_of_mem _ h)
          · rw [put_ne e] at h
            rcases List.mem_cons.mp h with h | h
            · exact .inl (by rw [h]; exact List.mem_cons_self)
            · rcases ih h with h | h
              · exact .inl (List.mem_cons_of_mem _ h)
              · exact .inr h
      rcases key hq with hq | rfl
      · exact Nat.le_succ_of_le (h q hq)
      · rw [List.length_append]
        cases e : lk l (ck z) with
        | none => simp
        | some w =>
          have : w.length ≤ n := h _ (lk_some_mem e)
          show w.length + 1 ≤ n + 1
          omega
end
inductive GL (K : PySem.W.Frag) (H : Hp) {κ ν : Type} (encv : ν → PyData) : List (κ × V) → List (κ × List ν) → List Addr → Prop
  | nil : GL K H encv [] [] []
  | cons {k : κ} {b : Addr} {ys : List V} {vs : List ν} {kvs : List (κ × V)} {l : List (κ × List ν)} {bs : List Addr} : H b = some (.lst ys) → DtA K H ys (vs.map encv) → b ∉ bs → GL K H encv kvs l bs → GL K H encv ((k, .ref b) :: kvs) ((k, vs) :: l) (b :: bs)
section
variable {K : PySem.W.Frag} {H H' : Hp} {κ ν : Type} {encv : ν → PyData} {kvs : List (κ × V)} {l : List (κ × List ν)} {bs : List Addr}
theorem GL.ex (e : Ex H H') (h : GL K H encv kvs l bs) : GL K H' encv kvs l bs := by
  induction h with
  | nil => exact .nil
  | cons h1 h2 h3 _ ih => exact .cons (e _ _ h1) (DtA.ex e _ _ h2) h3 ih
theorem GL.keys (h : GL K H encv kvs l bs) : kvs.map (·.1) = l.map (·.1) := by
  induction h with
  | nil => rfl
  | cons _ _ _ _ ih => rw [List.map_cons, List.map_cons, ih]
theorem GL.tk (m : ∀ x, im (encv x) = true) (t : Tk H H') (hb : ∀ b ∈ bs, H' b = H b) (h : GL K H encv kvs l bs) : GL K H' encv kvs l bs := by
  induction h with
  | nil => exact .nil
  | cons h1 h2 h3 _ ih => exact .cons ((hb _ List.mem_cons_self).trans h1) (DtA.tk t _ _ (imA_map _ m _) h2) h3 (ih fun b hb' => hb b (List.mem_cons_of_mem _ hb'))
theorem GL.track (h : GL K H encv kvs l bs) : ∀ b ∈ bs, ∃ ys, H b = some (.lst ys) := by
  induction h with
  | nil => intro b hb; cases hb
  | cons h1 _ _ _ ih =>
    intro b hb
    rcases List.mem_cons.mp hb with rfl | hb
    · exact ⟨_, h1⟩
    · exact ih b hb
variable [DecidableEq κ]
theorem GL.lk (h : GL K H encv kvs l bs) (k : κ) : (lk kvs k = none ∧ lk l k = none) ∨ ∃ b ys vs, lk kvs k = some (.ref b) ∧ lk l k = some vs ∧ b ∈ bs ∧ H b = some (.lst ys) ∧ DtA K H ys (vs.map encv) := by
  induction h with
  | nil => exact .inl ⟨rfl, rfl⟩
  | @cons j b ys vs kvs l bs h1 h2 h3 _ ih =>
    unfold NB.lk
    by_cases e : j = k
    · rw [if_pos e, if_pos e]; exact .inr ⟨b, ys, vs, rfl, rfl, List.mem_cons_self, h1, h2⟩
    · rw [if_neg e, if_neg e]
      rcases ih with h | ⟨b', ys', vs', g1, g2, g3, g4, g5⟩
      · exact .inl h
      · exact .inr ⟨b', ys', vs', g1, g2, List.mem_cons_of_mem _ g3, g4, g5⟩
/-- a new key -/
theorem GL.put_new {k : κ} {b : Addr} {ys : List V} {vs : List ν} (hk : NB.lk l k = none) (h1 : H b = some (.lst ys)) (h2 : DtA K H ys (vs.map encv)) (hb : b ∉ bs) (h : GL K H encv kvs l bs) : ∃ bs', GL K H encv (put kvs k (.ref b)) (put l k vs) bs' ∧ ∀ c, c ∈ bs' ↔ c = b ∨ c ∈ bs := by
  induction h with
  | nil => exact ⟨[b], .cons h1 h2 (by simp) .nil, by simp⟩
  | @cons j b' ys' vs' kvs l bs g1 g2 g3 g4 ih =>
    unfold NB.lk at hk
    by_cases e : j = k
    · rw [if_pos e] at hk; cases hk
    · rw [if_neg e] at hk
      obtain ⟨bs', q1, q2⟩ := ih hk (fun m => hb (List.mem_cons_of_mem _ m))
      unfold put
      rw [if_neg e, if_neg e]
      refine ⟨b' :: bs', .cons g1 g2 ?_ q1, fun c => ?_⟩
      · rw [q2]
        rintro (rfl | m)
        · exact hb List.mem_cons_self
        · exact g3 m
      · rw [List.mem_cons, q2, List.mem_cons]
        constructor
        · rintro (h | h | h)
          · exact .inr (.inl h)
          · exact .inl h
          · exact .inr (.inr h)
        · rintro (h | h | h)
          · exact .inr (.inl h)
          · exact .inl h
          · exact .inr (.inr h)
/-- its list grows -/
theorem GL.grow {k : κ} {b : Addr} {ys : List V} {v : V} {x : ν} (m : ∀ x, im (encv x) = true) (hk : NB.lk kvs k = some (.ref b)) (hH : H b = some (.lst ys)) (hv : Dt K H v (encv x)) (h : GL K H encv kvs l bs) : GL K (upd H b (.lst (ys ++ [v]))) encv kvs (grp l k x) bs := by
  have t : Tk H (upd H b (.lst (ys ++ [v]))) := Tk.mut hH trivial
  have off : ∀ {kvs : List (κ × V)} {l : List (κ × List ν)} {bs : List Addr}, GL K H encv kvs l bs → b ∉ bs → GL K (upd H b (.lst (ys ++ [v]))) encv kvs l bs := fun g nb => g.tk m t fun c hc => upd_ne (fun e => nb (e ▸ hc))
  induction h with
  | nil => cases hk
  | @cons j b' ys' vs' kvs l bs g1 g2 g3 g4 ih =>
    unfold NB.lk at hk
    by_cases e : j = k
    · rw [if_pos e] at hk
      cases hk
      rw [hH] at g1
      cases g1
      have hg : grp ((j, vs') :: l) k x = (j, vs' ++ [x]) :: l := by
        unfold grp
        rw [put_eq e, lk_eq e]; rfl
      rw [hg]
      refine .cons upd_same ?_ g3 (off g4 g3)
      rw [List.map_append]
      exact (DtA.tk t _ _ (imA_map _ m _) g2).app (.one (Dt.tk t _ _ (m x) hv))
    · rw [if_neg e] at hk
      have hg : grp ((j, vs') :: l) k x = (j, vs') :: grp l k x := by
        unfold grp
        rw [put_ne e, lk_ne e]
      rw [hg]
      have nb : b' ≠ b := fun z => by
        subst z
        rcases GL.lk g4 k with ⟨n, _⟩ | ⟨c, _, _, c1, _, c2, _⟩
        · rw [n] at hk; cases hk
        · rw [c1] at hk
          cases hk
          exact g3 c2
      exact .cons ((upd_ne nb).trans g1) (DtA.tk t _ _ (imA_map _ m _) g2) g3 (ih hk)
end
/-- nothing but rows that are never written -/
def eIm (env : List Sl) : Prop := ∀ x ∈ env, match x with | .d d => im d = true | .o _ _ => False | _ => True
theorem Sg.tk {K : PySem.W.Frag} {B B' : Hp} {σ : L2.St} {env : List Sl} (t : Tk B B') (m : eIm env) (s : Sg K B σ env) : Sg K B' σ env := by
  induction s with
  | nil => exact .nil
  | @cons o x σ env h _ ih =>
    refine .cons ?_ (ih fun y hy => m y (List.mem_cons_of_mem _ hy))
    have mx := m x List.mem_cons_self
    cases x with
    | no => trivial
    | d d => obtain ⟨v, h1, h2⟩ := h; exact ⟨v, h1, Dt.tk t _ _ mx h2⟩
    | v v => exact h
    | o φ st => cases mx
/-- such a dict, only read -/
def Sl.dl (P : Program) (w : World) (K : PySem.W.Frag) {κ ν : Type} (enc : κ → PyData) (E : KeyE enc) (encv : ν → PyData) (l : List (κ × List ν)) : Sl := .o (fun v H => ∃ a kvs bs, v = .ref a ∧ DcAt P w K enc H a kvs ∧ GL K H encv kvs l bs) fun _ _ _ e ⟨a, kvs, bs, h1, h2, h3⟩ => ⟨a, kvs, bs, h1, h2.ex E e, h3.ex e⟩
def tStep (P : Program) (w : World) (K : PySem.W.Frag) {κ : Type} [DecidableEq κ] (enc : κ → PyData) (i : Nat) (tk tv : TE) : TS := tDrop (tBM K "list" rAppend (tDM P w K enc (rSetdC P w K enc) (tVar i) (tCons tk (tCons (tLst tNil) tNil))) (tCons tv tNil))
section
variable {P : Program} {w : World} {K : PySem.W.Frag} {κ ν α : Type} [DecidableEq κ] {enc : κ → PyData} {E : KeyE enc} {encv : ν → PyData} {F : As} {env : List Sl} {u tb : TS} {wi : TI} {g : L2.TG} {i : Nat} {r : Rs}
/-- d = {}; for x in xs: ..; d.setdefault(k, []).append(v) -/
theorem vs_group {f : α → PyData} {xs : List α} {ck : α → κ} {cv : α → ν} {tk tv : TE} (mv : ∀ x, im (encv x) = true) (hi : i < env.length) (hl : xs.length ≤ 90000)
    (hw : ∀ a, VI K wi (env.set i (.v (.ref a))) (xs.map f))
    (hb : ∀ a, ∀ x ∈ xs, ∃ e2 is e3, GD K g (env.set i (.v (.ref a))) (f x) e2 is ∧ e3[i]? = some (.v (.ref a)) ∧ VD K tk e3 (enc (ck x)) ∧ VD K tv e3 (encv (cv x)) ∧ eIm e3 ∧ Le e3 (env.set i (.v (.ref a))) ∧
      ∀ (D : Ends) σ H, Sg K H σ e2 → (∀ σ' H', Ex H H' → Sg K H' σ' e3 → tStep P w K enc i tk tv D σ' H') → tb D σ H)
    (hu : VS K [] F u (env.set i (.dl P w K enc E encv (xs.foldl (fun l x => grp l (ck x) (cv x)) []))) r) :
    VS K [] F (tSeq (tAsg (tDcNew P w K enc) (gName i)) (tSeq (tFor wi g tb) u)) env r := fun D σ H z q p H1 hp hk hd => by
  let st := fun (l : List (κ × List ν)) (x : α) => grp l (ck x) (cv x)
  have e1 : Ex H H1 := fun b o h => by rw [hk b (ne_of_none h hp)]; exact h
  obtain ⟨od, hod, mod⟩ := hd.mut
  have b0 : Ex H (er H1 p) := er_in e1 hp
  have s1 : Sg K H (σ.set i (some (.ref p))) (env.set i (.v (.ref p))) := z.s.setV i
  refine hw p _ _ s1 H1 e1 _ fun J H2 e2 hwk => ?_
  have wk := hwk _ (er_bok b0 hod mod e2)
  have hl' : (xs.map f).length = xs.length := List.length_map _
  unfold WkD at wk
  rw [hl'] at wk
  have hB : Ex H (er H2 p) := b0.trans (er_mono e2)
  refine for_it wk (fun j σ' H' => Ex (er H2 p) H' ∧ Sg K H' σ' (env.set i (.v (.ref p))) ∧ ∃ kvs bs, DcAt P w K enc H' p kvs ∧ GL K H' encv kvs ((xs.take j).foldl st []) bs ∧ (∀ b ∈ bs, er H2 p b = none ∧ b ≠ p)) ⟨er_sub _ _, s1.ex (e1.trans e2), [], [], hd.ex E e2, .nil, fun b hb => (by cases hb)⟩ (fun j σ' H' _ h => h.1) (fun j x σ' H' H'' hj pv y => ?_) (fun σ' H' pv => ?_)
  · obtain ⟨q1, q2, kvs, bs, q3, q4, q5⟩ := pv
    obtain ⟨y1, d, y2, y3⟩ := y
    rw [List.getElem?_map] at y2
    obtain ⟨a, ha, rfl⟩ := Option.map_eq_some_iff.mp y2
    obtain ⟨ee2, is, ee3, g1, g2, g3, g4, gi, g5, g6⟩ := hb p a (List.mem_of_getElem? ha)
    have hx : Dt K H'' x (f a) := y3 H'' (q1.trans y1) fun _ _ _ h => h
    have sH : Sg K H'' σ' (env.set i (.v (.ref p))) := q2.ex y1
    refine g1 H'' σ' x H'' sH (Ex.refl _) hx _ fun σ2 s2 _ => ?_
    refine g6 _ σ2 H'' s2 fun σ3 H3 e3 s3 => ?_
    have d3 : DcAt P w K enc H3 p kvs := q3.ex E (y1.trans e3)
    have gl3 := q4.ex (y1.trans e3)
    have B3 : Ex (er H2 p) H3 := (q1.trans y1).trans e3
    refine ⟨_, s3.getV g2, ⟨p, kvs, rfl, d3⟩, ?_⟩
    refine g3 σ3 H3 s3 H3 (Ex.refl _) _ fun ky H4 e4 hky => ⟨by decide, fun zl hz => ?_⟩
    have e45 : Ex H4 (upd H4 zl (.lst [])) := Ex.new hz
    have d5 : DcAt P w K enc (upd H4 zl (.lst [])) p kvs := d3.ex E (e4.trans e45)
    have gl5 := gl3.ex (e4.trans e45)
    have B5 : Ex (er H2 p) (upd H4 zl (.lst [])) := (B3.trans e4).trans e45
    have zB : er H2 p zl = none := by
      cases qq : er H2 p zl with
      | none => rfl
      | some o => rw [(B3.trans e4) _ _ qq] at hz; cases hz
    have zp : zl ≠ p := fun e => by
      subst e
      obtain ⟨o, ho, _⟩ := (d3.ex E e4).mut
      rw [ho] at hz; cases hz
    have zb : zl ∉ bs := fun m => by
      obtain ⟨ys, hy⟩ := (gl3.ex e4).track _ m
      rw [hy] at hz; cases hz
    have hlen : kvs.length < sizeLine := by
      have k1 := congrArg List.length gl3.keys
      rw [List.length_map, List.length_map] at k1
      have k2 : ∀ (zs : List α) (l : List (κ × List ν)), (zs.foldl st l).length ≤ l.length + zs.length := by
        intro zs
        induction zs with
        | nil => intro l; exact Nat.le_refl _
        | cons c zs ih =>
          intro l
          have h1 := ih (st l c)
          have h2 : (st l c).length ≤ l.length + 1 := len_put l (ck c) _
          rw [List.foldl_cons, List.length_cons]; omega
      have k3 := k2 (xs.take j) []
      rw [List.length_nil, Nat.zero_add, List.length_take] at k3
      have : (90000 : Nat) < sizeLine := by decide
      omega
    have hfold : (xs.take (j + 1)).foldl st [] = grp ((xs.take j).foldl st []) (ck a) (cv a) := fold_take st [] xs ha
    have fin : ∀ (b : Addr) (ys : List V) (H6 : Hp) (kvs' : List (κ × V)) (bs' : List Addr) (l' : List (κ × List ν)), Ex (er H2 p) H6 → DcAt P w K enc H6 p kvs' → GL K H6 encv kvs' l' bs' → (∀ c ∈ bs', er H2 p c = none ∧ c ≠ p) → lk kvs' (ck a) = some (.ref b) → b ∈ bs' → H6 b = some (.lst ys) → ys.length < sizeLine → Sg K H6 σ3 ee3 →
        grp l' (ck a) (cv a) = (xs.take (j + 1)).foldl st [] → tyV K "list" (.ref b) H6 ∧ tCons tv tNil σ3 H6 fun vs H7 => rAppend (.ref b) vs H7 fun _ H8 => Ex (er H2 p) H8 ∧ Sg K H8 σ3 (env.set i (.v (.ref p))) ∧ ∃ kvs bs, DcAt P w K enc H8 p kvs ∧ GL K H8 encv kvs ((xs.take (j + 1)).foldl st []) bs ∧ (∀ b ∈ bs, er H2 p b = none ∧ b ≠ p) := by
      intro b ys H6 kvs' bs' l' x6 d6 gl6 nb6 lk6 mb hb6 hy6 s6 hgr
      refine ⟨.inl ⟨rfl, ys, SqL.of hb6⟩, g4 σ3 H6 s6 H6 (Ex.refl _) _ fun v H7 e7 hv => ⟨b, ys, v, rfl, rfl, e7 _ _ hb6, hy6, ?_⟩⟩
      have hb7 : H7 b = some (.lst ys) := e7 _ _ hb6
      have t8 : Tk H7 (upd H7 b (.lst (ys ++ [v]))) := Tk.mut hb7 trivial
      refine ⟨fun c o h => ?_, ((s6.ex e7).tk t8 gi).le g5, kvs', bs', (d6.ex E e7).tk E t8 fun o h => by rw [upd_ne (Ne.symm (nb6 b mb).2)]; exact h, ?_, nb6⟩
      · rw [upd_ne (fun e => by subst e; rw [(nb6 _ mb).1] at h; cases h)]
        exact e7 _ _ (x6 _ _ h)
      · rw [← hgr]
        exact (gl6.ex e7).grow mv lk6 hb7 hv
    have hky5 : Dt K (upd H4 zl (.lst [])) ky (enc (ck a)) := Dt.ex e45 _ _ hky
    have s5 : Sg K (upd H4 zl (.lst [])) σ3 ee3 := s3.ex (e4.trans e45)
    refine ⟨p, kvs, ck a, ky, .ref zl, rfl, rfl, d5, hky5, hlen, fun v hv => ?_, fun hn H6 k6 d6 => ?_⟩
    · rcases gl5.lk (ck a) with ⟨n, _⟩ | ⟨b, ys, vs, c1, c2, c3, c4, c5⟩
      · rw [n] at hv; cases hv
      · rw [c1] at hv
        cases hv
        have yl : ys.length < sizeLine := by
          have h1 := grp_len (n := 0) (ck := ck) (cv := cv) (xs.take j) [] (fun p hp => by cases hp) _ (lk_some_mem c2)
          have h2 := c5.len
          rw [List.length_map] at h2
          rw [List.length_take] at h1
          have : (90000 : Nat) < sizeLine := by decide
          simp only at h1
          omega
        exact fin b ys _ kvs bs _ B5 d5 gl5 q5 c1 c3 c4 yl s5 hfold.symm
    · have t6 : Tk (upd H4 zl (.lst [])) H6 := by
        obtain ⟨o, ho, mo⟩ := d5.mut
        exact Tk.at ho mo k6
      have hn2 : lk ((xs.take j).foldl st []) (ck a) = none := by
        rcases gl5.lk (ck a) with ⟨_, n⟩ | ⟨b, ys, vs, c1, _⟩
        · exact n
        · rw [c1] at hn; cases hn
      have hz6 : H6 zl = some (.lst []) := (k6 zl zp).trans upd_same
      have gl6 : GL K H6 encv kvs ((xs.take j).foldl st []) bs := gl5.tk mv t6 fun b hb => k6 b (q5 b hb).2
      obtain ⟨bs', m1, m2⟩ := gl6.put_new (k := ck a) (vs := []) hn2 hz6 .nil zb
      refine fin zl [] H6 _ bs' _ (fun c o h => ?_) d6 m1 (fun c hc => ?_) ?_ ((m2 zl).mpr (.inl rfl)) hz6 (by decide) (s5.tk t6 gi) ?_
      · rw [k6 c (fun e => by subst e; rw [er_self] at h; cases h)]
        exact B5 _ _ h
      · rcases (m2 c).mp hc with rfl | hc
        · exact ⟨zB, zp⟩
        · exact q5 c hc
      · rw [lk_put, if_pos rfl]
      · rw [grp_new hn2]
        exact hfold.symm
  · obtain ⟨q1, q2, kvs, bs, q3, q4, q5⟩ := pv
    rw [List.take_length] at q4
    have s4 : Sg K H' σ' ((env.set i (.v (.ref p))).set i (.dl P w K enc E encv (xs.foldl st []))) := q2.at (x := .dl P w K enc E encv (xs.foldl st [])) ⟨_, rfl, p, kvs, bs, rfl, q3, q4⟩ (q2.getV (by rw [List.getElem?_set_self hi]))
    rw [List.set_set] at s4
    refine hu D σ' H' ⟨fun a m => (by cases m), by rw [Bs_nil]; exact s4, As.ex_ (hB.trans q1) z.as⟩ (Rs.ok_mono (XO.of (hB.trans q1)) q)
end
end NB
end S_NbG

section S_NbH
set_option Elab.async false
set_option linter.all false
set_option maxRecDepth 100000
set_option maxHeartbeats 4000000
namespace NB
open PySem PySem.Spec PyProof.Rows L2 PySem.W
open Evl (Ex)

/-! ### for x in d.values() of such a dict, locked -/
/-- no row of data stands at a -/
def NotSeq : Option HO → Prop
  | some (.lst _) => False
  | some (.tup _) => False
  | some (.frz _ (.tup _)) => False
  | _ => True
section
variable {K : PySem.W.Frag} {H : Hp} {a : Addr}
mutual
theorem Dt.er (n : NotSeq (H a)) : ∀ (d : PyData) (v : V), Dt K H v d → Dt K (er H a) v d
  | .none, _, h => by cases h; exact .non
  | .bool b, _, h => by cases h; exact .bl b
  | .int i, _, h => by cases h; exact .int i
  | .str x, _, h => by cases h
  | .list ds, _, h => by
    cases h with
    | @lst b xs _ h1 h2 =>
      refine .lst ?_ (DtA.er n ds _ h2)
      unfold NB.er
      rw [if_neg (fun e => by subst e; rw [h1] at n; exact n), h1]
  | .tuple ds, _, h => by
    cases h with
    | @tup b xs _ h1 h2 =>
      refine .tup ?_ (DtA.er n ds _ h2)
      rcases h1 with (h1 | ⟨o, h1⟩) | h1
      · refine .inl (.inl ?_)
        unfold NB.er
        rw [if_neg (fun e => by subst e; rw [h1] at n; exact n), h1]
      · refine .inl (.inr ⟨o, ?_⟩)
        unfold NB.er
        rw [if_neg (fun e => by subst e; rw [h1] at n; exact n), h1]
      · exact .inr h1
  | .dict _, _, h => by cases h
theorem DtA.er (n : NotSeq (H a)) : ∀ (ds : List PyData) (vs : List V), DtA K H vs ds → DtA K (er H a) vs ds
  | [], _, h => by cases h; exact .nil
  | d :: ds, _, h => by cases h with | cons h1 h2 => exact .cons (Dt.er n d _ h1) (DtA.er n ds _ h2)
end
/-- slots of data and addresses alone -/
def eDv (env : List Sl) : Prop := ∀ x ∈ env, match x with | .o _ _ => False | _ => True
theorem Sg.er {σ : L2.St} {env : List Sl} (n : NotSeq (H a)) (m : eDv env) (s : Sg K H σ env) : Sg K (er H a) σ env := by
  induction s with
  | nil => exact .nil
  | @cons o x σ env h _ ih =>
    refine .cons ?_ (ih fun y hy => m y (List.mem_cons_of_mem _ hy))
    have mx := m x List.mem_cons_self
    cases x with
    | no => trivial
    | d d => obtain ⟨v, h1, h2⟩ := h; exact ⟨v, h1, Dt.er n _ _ h2⟩
    | v v => exact h
    | o φ st => cases mx
end
/-- F stands whatever stands at a, no row of data being there -/
def As.OffX (F : As) (a : Addr) : Prop := ∀ H H', (∀ b, b ≠ a → H' b = H b) → NotSeq (H a) → F.p H → F.p H'
theorem As.offX_emp {a : Addr} : As.emp.OffX a := fun _ _ _ _ _ => trivial
theorem As.offX_and {F G : As} {a : Addr} (h1 : F.OffX a) (h2 : G.OffX a) : (F.and G).OffX a := fun H H' k n p => ⟨h1 H H' k n p.1, h2 H H' k n p.2⟩
theorem As.offX_lst {K : PySem.W.Frag} {a b : Addr} {ds : List PyData} {m : imA ds = true} (h : b ≠ a) : (As.lst K b ds m).OffX a := fun H H' k n ⟨xs, h1, h2⟩ => ⟨xs, (k b h).trans h1, DtA.ex (fun c o q => by
  unfold er at q
  split at q
  · cases q
  · rename_i nc
    rw [k c nc]; exact q) _ _ (DtA.er n _ _ h2)⟩
def ItdC (P : Program) (w : World) (d : Addr) (o : Obj) (xs : List (NestedKey × Addr × Value)) (vs : List V) : It :=
  ⟨fun i H => H d = some (.frz o (DcO P w d xs)) ∧ i < xs.length, fun i H x H' => H' = H ∧ vs[i]? = some x, fun i H => H d = some (.frz o (DcO P w d xs)) ∧ i = xs.length⟩
theorem Inv.frzC {X : Cx} {pins : List (Addr × Obj)} {σ : L2.St} {H : Hp} {s : Shared} {d : Addr} {o : Obj} {xs : List (NestedKey × Addr × Value)} (I : Inv X pins σ H s) (h : H d = some (.frz o (DcO X.prog X.w d xs))) :
    (d == sysModules) = false ∧ s.heap.get? d = some o ∧ o.ExactDict ∧ ∃ (es : Array DictEntry) (ep : Nat), o.data = .dict es ep ∧ es.toList = xs.map (entryOfKey (nestedKind X.prog X.w)) := by
  obtain ⟨hd, ⟨z, hs, o', es, ep, ho, hx, hdt, he, _⟩, _⟩ := I.hok d _ h
  rw [hd] at ho
  cases ho
  exact ⟨hs, hd, hx, es, ep, hdt, he⟩
theorem raw_of {h : Heap} {d : Addr} {o : Obj} {es : Array DictEntry} {ep : Nat} (h1 : h.get? d = some o) (h2 : o.ExactDict) (h3 : o.data = .dict es ep) : h.DictRaw d es ep := ⟨o, h1, h2, h3⟩
section
variable {P : Program} {w : World} {K : PySem.W.Frag} {tg : Expr} {d : Addr} {o : Obj} {es : Array DictEntry} {ep : Nat} {xs : List (NestedKey × Addr × Value)} {vs : List V}
theorem turn_valsC (it : Addr) (hod : o.data = .dict es ep) (hv : ∀ (i : Nat) (x : V), vs[i]? = some x → ∃ y : NestedKey × Addr × Value, xs[i]? = some y ∧ RelV x y.2.2) (hl : vs.length = xs.length) : Turn P w K tg (ItdC P w d o xs vs) [it] it (fun i h => h.IsValIter it d i xs.length ep) where
  mem := by simp
  obj := fun i h st b hb => by
    have e : b = it := by simpa using hb
    subst e
    obtain ⟨oi, e, c, dd⟩ := st
    exact ⟨oi, e, fun v z => by rw [dd] at z; cases z⟩
  keep := fun i h h' st k => st.at fun oi e => k it (by simp) oi e
  item := by
    intro X hP hw hK hc i pins s σ H E I hf st hg
    subst hP hw hK
    obtain ⟨hd, hi⟩ := hg
    obtain ⟨f0, f1, f2, f3, f4, f5⟩ := hf it (by simp)
    obtain ⟨hs, hgd, hx, es', ep', hdt, he⟩ := Inv.frzC I hd
    rw [hod] at hdt
    cases hdt
    have hz : es.size = xs.length := size_of_entries he
    rw [← hz] at st
    have hi2 : i < es.size := by omega
    refine wpAny_pyNext_values_item_raw st (raw_of hgd hx hod) hi2 fun h' st' sb => ?_
    have I1 : Inv X pins σ H { s with heap := h' } := I.turned (t' := s.toks) (fun b ob hb e => (sb.2 b hb).trans e) f0 f1 f3 f4 f5
    obtain ⟨oi, e, c, dd⟩ := id st'
    have hi3 : i < vs.length := by omega
    obtain ⟨y, hy, ry⟩ := hv i vs[i] (List.getElem?_eq_getElem hi3)
    have ee : es[i].val = y.2.2 := by
      have e1 := entry_at he i
      rw [Array.getElem?_eq_getElem hi2, hy] at e1
      rw [Option.some.inj e1]
      rfl
    refine ⟨_, rfl, go_of (s := { s with heap := h' }) e c dd (by decide) ⟨vs[i], H, I1, by rw [ee]; exact ry, ⟨rfl, List.getElem?_eq_getElem hi3⟩, ?_, fun b hb => (hf b hb).1⟩⟩
    rw [← hz]
    exact st'
  done := by
    intro X hP hw hK hc i pins s σ H E I hf st hg
    subst hP hw hK
    obtain ⟨hd, hi⟩ := hg
    obtain ⟨f0, f1, f2, f3, f4, f5⟩ := hf it (by simp)
    obtain ⟨hs, hgd, hx, es', ep', hdt, he⟩ := Inv.frzC I hd
    rw [hod] at hdt
    cases hdt
    have hz : es.size = xs.length := size_of_entries he
    rw [← hz] at st
    exact wpAny_pyNext_values_end_raw (I.ok.hd hc) st (raw_of hgd hx hod) (by omega) fun h' eb => ⟨rfl, I.turned (t' := s.toks) (fun b o hb e => eb b o hb e) f0 f1 f3 f4 f5⟩
  self := fun A i s Q E st h => wpAny_pyIter_valiter st h
end
def iValsC (P : Program) (w : World) (td : TE) : TI := fun σ H R => td σ H fun x H1 => ∃ d o xs vs, x = .ref d ∧ H1 d = some (.frz o (DcO P w d xs)) ∧ (∀ (i : Nat) (x : V), vs[i]? = some x → ∃ y : NestedKey × Addr × Value, xs[i]? = some y ∧ RelV x y.2.2) ∧ vs.length = xs.length ∧ R (ItdC P w d o xs vs) H1
theorem pi_valsC {X : Cx} {P : Program} {w : World} {tg e : Expr} {td : TE} {apos cpos : Pos} (hP : X.prog = P) (hw : X.w = w) (he : PE X e td) (hbase : attributeBase e "values" X.env (eval e X.env) = eval e X.env := by rfl) (hline : (apos.endLine == cpos.line) = true := by rfl) :
    PI X tg (.Call (.Attribute e "values" apos) [] [] cpos) (iValsC P w td) := by
  subst hP hw
  refine ⟨fun pins s σ H R I h => ?_⟩
  refine wpAny_Call_method (T := "dict") (id := "dict.values") hbase rfl hline F.plainAttrs_dict F.slot_dict_values F.type_dict_values (thn (he.run pins s σ H _ I h) fun u s1 ⟨x, H1, I1, rx, d, o, xs, vs, ex, hd, hv, hl, q⟩ => ?_)
  subst ex
  obtain rfl : u = Value.ref d := rx
  obtain ⟨hs, hgd, hx, es, ep, hdt, hee⟩ := Inv.frzC I1 hd
  have hm := raw_of hgd hx hdt
  have hz : es.size = xs.length := size_of_entries hee
  refine ⟨hm.typeIs, fun b hb => (by cases hb; exact ⟨o, hgd, hx.2.1⟩), ?_⟩
  have I2 : Inv X pins σ H1 { s1 with heap := s1.heap.push { cls := .type "dict_values", data := .fields #[.ref d] } } := I1.kept (t' := s1.toks) fun b ob q => Heap.get?_push_of_some _ q
  have fin : wpAny (model X.prog X.w) X.A (pyIter (.ref s1.heap.objs.size)) (PIE X pins σ tg R) X.xe { s1 with heap := s1.heap.push { cls := .type "dict_values", data := .fields #[.ref d] } } := by
    refine wpAny_pyIter_values_raw (d := d) ⟨_, Heap.get?_push_size _ rfl, rfl, rfl⟩ (raw_of (Heap.get?_push_of_some _ hgd) hx hdt) (pi_one (tk := s1.toks) I2 _ (turn_valsC _ hdt hv hl) ⟨_, Heap.get?_push_size _ rfl, rfl, ?_⟩ q)
    rw [hz] <;> rfl
  show wpAny _ _ (callWith cpos (.builtin "dict.values") [.ref d] [] []) _ X.xe s1
  exact method_meetsIn F.slot_dict_values F.entry_dict_values rfl (PySem.evalArgs_none ⟨rfl, hm.typeIs, F.args_dict_values_1 _, _, PySem.meets_dict_values_raw d hs, ⟨es, ep, hm⟩, fin⟩)
section
variable {P : Program} {w : World} {K : PySem.W.Frag} {κ ν : Type} [DecidableEq κ] {enc : κ → PyData} {E : KeyE enc} {encv : ν → PyData} {O : List Addr} {F : As} {env : List Sl} {tb : TS} {g : L2.TG} {i : Nat}
theorem gl_vals {H : Hp} {kvs : List (κ × V)} {l : List (κ × List ν)} {bs : List Addr} (h : GL K H encv kvs l bs) : DtA K H (kvs.map (·.2)) (l.map fun p => .list (p.2.map encv)) := by
  induction h with
  | nil => exact .nil
  | cons h1 h2 _ _ ih => exact .cons (.lst h1 h2) ih
theorem vals_rel {H : Hp} {kvs : List (κ × V)} {xs : List (NestedKey × Addr × Value)} (h : Paired (DcR K H enc) kvs xs) : ∀ (i : Nat) (x : V), (kvs.map (·.2))[i]? = some x → ∃ y : NestedKey × Addr × Value, xs[i]? = some y ∧ RelV x y.2.2 := by
  induction h with
  | nil => intro i x e; simp at e
  | @cons p y kvs xs r _ ih =>
    intro i x e
    cases i with
    | zero => simp at e; subst e; exact ⟨y, rfl, r.val⟩
    | succ i => exact ih i x (by simpa using e)
/-- env1: env without the dict's view -/
theorem vs_forVals {l : List (κ × List ν)} (I : Nat → List Sl) (Fi : Nat → As) (hi : env[i]? = some (.dl P w K enc E encv l)) (him : eDv (env.set i .no))
    (h0 : ∀ a, Le (env.set i (.v (.ref a))) (I 0)) (hF : ∀ H, F.p H → (Fi 0).p H) (hI : ∀ j, eDv (I j)) (hoff : ∀ a, a ∉ O → F.OffX a ∧ ∀ j, (Fi j).OffX a)
    (hs : ∀ j x, l[j]? = some x → ∃ e2 is e3, GD K g (I j) (.list (x.2.map encv)) e2 is ∧ VS K O (Fi j) tb e2 (.nx (· = e3) (Fi (j + 1))) ∧ Le e3 (I (j + 1))) : VS K O F (tLock (tFor (iValsC P w (tVar i)) g tb)) env (.nx (· = I l.length) (Fi l.length)) := fun D σ H z q => by
  obtain ⟨v, hv, a, kvs, bs, rfl, ⟨xs, hx, hp⟩, gl⟩ := z.sg.getO hi
  have na : a ∉ O := fun m => by rw [Bs_none m] at hx; cases hx
  have hxH : H a = some (DcO P w a xs) := Bs_sub _ _ _ _ hx
  have ns : NotSeq (H a) := by rw [hxH]; trivial
  refine ⟨a, DcO P w a xs, hxH, trivial, fun od => ?_⟩
  have out : ∀ {G : Hp} {o : HO}, Ex (er (Bs G O) a) (Bs (upd G a o) O) := fun {G o} c u h => by
    unfold er at h
    split at h
    · cases h
    · rename_i nc
      by_cases mc : c ∈ O
      · rw [Bs_none mc] at h; cases h
      · rw [Bs_out mc] at h ⊢
        rw [upd_ne nc]; exact h
  have s0 : Sg K (Bs (upd H a (.frz od (DcO P w a xs))) O) σ (env.set i (.v (.ref a))) := by
    have s1 : Sg K (er (Bs H O) a) σ (env.set i .no) := Sg.er (by rw [hx]; trivial) him (z.sg.at (x := .no) (o := some (.ref a)) trivial hv)
    have s2 := (s1.ex (out (o := .frz od (DcO P w a xs)))).at (x := .v (.ref a)) (o := some (.ref a)) rfl hv
    rw [List.set_set] at s2
    exact s2
  have gl0 : DtA K (Bs (upd H a (.frz od (DcO P w a xs))) O) (kvs.map (·.2)) (l.map fun p => .list (p.2.map encv)) := DtA.ex (out (o := .frz od (DcO P w a xs))) _ _ (DtA.er (by rw [hx]; trivial) _ _ (gl_vals gl))
  have z0 : Zs K O F (env.set i (.v (.ref a))) σ (upd H a (.frz od (DcO P w a xs))) := ⟨fun b m => by
    obtain ⟨o, h1, h2⟩ := z.own b m
    exact ⟨o, by rw [upd_ne (fun e => na (by rw [← e]; exact m))]; exact h1, h2⟩, s0, (hoff a na).1 H _ (fun b nb => upd_ne nb) ns z.as⟩
  have lk : kvs.length = l.length := by
    have := congrArg List.length gl.keys
    rw [List.length_map, List.length_map] at this
    exact this
  have lx : kvs.length = xs.length := rel_len hp
  refine ⟨_, hv, a, od, xs, kvs.map (·.2), rfl, upd_same, vals_rel hp, by rw [List.length_map, lx], ?_⟩
  have wk : Walk (ItdC P w a od xs (kvs.map (·.2))) l.length (fun H' => H' a = some (.frz od (DcO P w a xs))) (fun j H1 x H1' => H1' = H1 ∧ (kvs.map (·.2))[j]? = some x) :=
    ⟨fun j H' hj h => ⟨h, by omega⟩, fun H' h => ⟨h, by omega⟩, fun j H' x H'' hj h y => y⟩
  refine for_it wk (fun j σ' H' => XO O (upd H a (.frz od (DcO P w a xs))) H' ∧ Zs K O (Fi j) (I j) σ' H') ⟨XO.refl _ _, (z0.le (h0 a)).own, (z0.le (h0 a)).sg, hF _ z0.as⟩ (fun j σ' H' _ p => p.1.at na upd_same) (fun j x σ' H' H'' hj p y => ?_) (fun σ' H' p => ?_)
  · obtain ⟨p1, p2⟩ := p
    obtain ⟨rfl, y2⟩ := y
    obtain ⟨dd, d1, d2⟩ := gl0.get y2
    rw [List.getElem?_map] at d1
    obtain ⟨x', hx', rfl⟩ := Option.map_eq_some_iff.mp d1
    obtain ⟨e2, is, e3, g1, g2, g3⟩ := hs j x' hx'
    refine g1 _ σ' x H'' p2.sg (Bs_sub _ _) (Dt.ex p1 _ _ d2) _ fun σ2 s2 _ => ?_
    exact g2 _ σ2 H'' ⟨p2.own, s2, p2.as⟩ fun env' σ3 H3 he x3 z3 => ⟨p1.trans x3, (by subst he; exact z3.le g3)⟩
  · obtain ⟨p1, p2⟩ := p
    have ha : H' a = some (.frz od (DcO P w a xs)) := p1.at na upd_same
    have nsf : NotSeq (some (HO.frz od (DcO P w a xs))) := by unfold DcO; trivial
    refine ⟨ha, q _ σ' _ rfl ?_ ⟨fun b m => ?_, ?_, ?_⟩⟩
    · refine XO.by_ fun c o mc hc => ?_
      by_cases e : c = a
      · subst e; rw [upd_same]; rw [hxH] at hc; exact hc
      · rw [upd_ne e]
        exact p1.at mc (by rw [upd_ne e]; exact hc)
    · obtain ⟨o, h1, h2⟩ := p2.own b m
      exact ⟨o, by rw [upd_ne (fun e => na (by rw [← e]; exact m))]; exact h1, h2⟩
    · exact (Sg.er (by rw [Bs_out na, ha]; exact nsf) (hI _) p2.sg).ex out
    · exact (hoff a na).2 _ H' _ (fun b nb => upd_ne nb) (by rw [ha]; exact nsf) p2.as
/-- sorted(d), d[k] of such a dict -/
theorem vn_sortCL {l : List (κ × List ν)} (hi : env[i]? = some (.dl P w K enc E encv l)) (ok : SOk (l.map fun q => enc q.1)) : VN K (tCB (rSortC P w K enc) (tCons (tVar i) tNil)) env (sortD (l.map fun q => enc q.1)) := fun σ B s H1 e Q q => by
  obtain ⟨v, h1, b, kvs, bs, rfl, d1, d2⟩ := s.getO hi
  have ek : (kvs.map fun q => enc q.1) = l.map fun q => enc q.1 := by
    have := congrArg (List.map enc) d2.keys
    rw [List.map_map, List.map_map] at this
    exact this
  refine ⟨_, h1, b, kvs, rfl, d1.ex E e, by rw [ek]; exact ok, fun p ys hp hy => ?_⟩
  rw [ek] at hy
  exact q p ys _ hp (Ex.new hp) upd_same (DtA.ex (Ex.new hp) _ _ hy)
theorem vd_ixCL {l : List (κ × List ν)} {tk : TE} {k : κ} {xs : List ν} (hi : env[i]? = some (.dl P w K enc E encv l)) (hk : VD K tk env (enc k)) (hl : lk l k = some xs) : VD K (tOp (rIxC P w K enc) (tVar i) tk) env (.list (xs.map encv)) := fun σ B s H1 e Q q => by
  obtain ⟨v, h1, b, kvs, bs, rfl, hd, gl⟩ := s.getO hi
  refine ⟨_, h1, hk σ B s H1 e _ fun y H2 e2 dy => ?_⟩
  rcases (gl.ex (e.trans e2)).lk k with ⟨_, n⟩ | ⟨c, ys, vs, n1, n2, n3, n4, n5⟩
  · rw [hl] at n; cases n
  · rw [hl] at n2; cases n2
    exact ⟨b, kvs, k, .ref c, rfl, hd.ex E (e.trans e2), dy, n1, q _ H2 e2 (.lst n4 n5)⟩
end
end NB
end S_NbH

section S_NbM5
set_option Elab.async false
set_option linter.all false
set_option maxRecDepth 100000
set_option maxHeartbeats 4000000
namespace NB
open PySem PySem.Spec PyProof.Rows L2 PySem.W

theorem enumD_map {α : Type} (f : α → PyData) (xs : List α) : enumD (xs.map f) = xs.zipIdx.map fun q => .tuple [.int (q.2 : Nat), f q.1] := by
  apply List.ext_getElem?
  intro i
  unfold enumD
  rw [List.getElem?_mapIdx, List.getElem?_map, List.getElem?_map, List.getElem?_zipIdx]
  cases xs[i]? with
  | none => rfl
  | some x => simp
/-! ### all powers that fit -/
/-- the samples that show a column -/
def places (col : Nat) (shows : Pw) : List Nat := (shows.zipIdx.filter fun q => decide (col ∈ q.1)).map (·.2)
def shrN : List (Nat × Nat) → Nat → Option Nat → Option Nat
  | [], _, o => o
  | p :: l, n, o => shrN l n (if p.1 = n then some p.2 else o)
def share (pl parts : List Nat) (pw : Pw) : Pw := pw.zipIdx.map fun q => q.1 ++ [(shrN (pl.zip parts) q.2 none).getD 0]
def fstep (shows : Pw) (found : List Pw) (q : Nat × Nat) : List Pw := found.flatMap fun pw => (splits q.1 (places q.2 shows).length).map fun parts => share (places q.2 shows) parts pw
def fitp (shows : Pw) (sums : List Nat) : List Pw := sums.zipIdx.foldl (fstep shows) [List.replicate shows.length []]
theorem shr_zs : ∀ (a b : List Nat) (n : Nat) (o : Option Nat), shr ((zs a).zip (zs b)) (n : Nat) (o.map fun m => ((m : Nat) : Int)) = (shrN (a.zip b) n o).map fun m => ((m : Nat) : Int)
  | [], _, n, o => rfl
  | _ :: _, [], n, o => rfl
  | x :: a, y :: b, n, o => by
    show shr ((zs a).zip (zs b)) (n : Nat) (if ((x : Nat) : Int) = (n : Nat) then some ((y : Nat) : Int) else o.map fun m => ((m : Nat) : Int)) = (shrN (a.zip b) n (if x = n then some y else o)).map fun m => ((m : Nat) : Int)
    rw [← shr_zs a b n]
    congr 1
    by_cases h : x = n
    · rw [if_pos h, if_pos (by omega)]; rfl
    · rw [if_neg h, if_neg (by omega)]
theorem share_val (a b : List Nat) (n : Nat) : (shr ((zs a).zip (zs b)) (n : Nat) none).getD 0 = (((shrN (a.zip b) n none).getD 0 : Nat) : Int) := by
  have := shr_zs a b n none
  rw [show (Option.map (fun m : Nat => (m : Int)) none) = none from rfl] at this
  rw [this]
  cases shrN (a.zip b) n none <;> rfl
theorem splits_len' : ∀ (n t : Nat), (splits t n).length ≤ (t + 1) ^ n
  | 0, t => by
    unfold splits
    split <;> simp
  | n + 1, t => by
    unfold splits
    rw [List.length_flatMap]
    have : ∀ k, k ≤ t + 1 → ((List.range k).map fun i => ((splits (t - i) n).map fun r => i :: r).length).sum ≤ k * (t + 1) ^ n := by
      intro k
      induction k with
      | zero => intro _; simp
      | succ k ih =>
        intro hk
        have h1 := ih (by omega)
        have h2 := Nat.le_trans (splits_len' n (t - k)) (Nat.pow_le_pow_left (by omega : t - k + 1 ≤ t + 1) n)
        rw [List.range_succ, List.map_append, List.sum_append, Nat.succ_mul]
        simp only [List.map_cons, List.map_nil, List.sum_cons, List.sum_nil, List.length_map, Nat.add_zero] at h1 ⊢
        omega
    rw [Nat.pow_succ, Nat.mul_comm]
    exact this (t + 1) (Nat.le_refl _)
theorem places_len (col : Nat) (shows : Pw) : (places col shows).length ≤ shows.length := by
  unfold places
  rw [List.length_map]
  refine Nat.le_trans (List.length_filter_le _ _) ?_
  rw [List.length_zipIdx]; exact Nat.le_refl _
theorem split64 {t n : Nat} (ht : t ≤ 3) (hn : n ≤ 3) : (splits t n).length ≤ 64 := by
  refine Nat.le_trans (splits_len' n t) (Nat.le_trans (Nat.pow_le_pow_left (by omega : t + 1 ≤ 4) n) (Nat.le_trans (Nat.pow_le_pow_right (by decide) hn) (by decide)))
theorem flat_take {α β : Type} (g : α → List β) (xs : List α) {i : Nat} {x : α} (h : xs[i]? = some x) : (xs.take (i + 1)).flatMap g = (xs.take i).flatMap g ++ g x := by
  rw [List.take_add_one, h, List.flatMap_append]
  simp
theorem flat_len {α β : Type} {g : α → List β} {n : Nat} : ∀ {xs : List α}, (∀ x ∈ xs, (g x).length ≤ n) → (xs.flatMap g).length ≤ xs.length * n
  | [], _ => by simp
  | x :: xs, h => by
    have h1 := h x List.mem_cons_self
    have h2 := flat_len (xs := xs) fun y hy => h y (List.mem_cons_of_mem _ hy)
    rw [List.flatMap_cons, List.length_append, List.length_cons, Nat.succ_mul]; omega
def SumOk (sums : List Nat) : Prop := sums.length ≤ 2 ∧ ∀ t ∈ sums, t ≤ 3
theorem fold_len64 {shows : Pw} {sums : List Nat} (h3 : shows.length ≤ 3) (ok : SumOk sums) : ∀ i, i ≤ 2 → (((sums.zipIdx).take i).foldl (fstep shows) [List.replicate shows.length []]).length ≤ 64 ^ i
  | 0, _ => by simp
  | i + 1, hi => by
    have ih := fold_len64 h3 ok i (by omega)
    cases e : (sums.zipIdx)[i]? with
    | none =>
      have : (sums.zipIdx).take (i + 1) = (sums.zipIdx).take i := by
        rw [List.take_add_one, e]; simp
      rw [this]
      exact Nat.le_trans ih (Nat.pow_le_pow_right (by decide) (Nat.le_succ i))
    | some q =>
      rw [fold_take _ _ _ e]
      have hq : q.1 ≤ 3 := by
        rw [List.getElem?_zipIdx] at e
        obtain ⟨t, ht, rfl⟩ := Option.map_eq_some_iff.mp e
        exact ok.2 t (List.mem_of_getElem? ht)
      unfold fstep
      refine Nat.le_trans (flat_len (n := 64) fun pw _ => ?_) ?_
      · rw [List.length_map]
        exact split64 hq (Nat.le_trans (places_len _ _) h3)
      · rw [Nat.pow_succ]
        exact Nat.mul_le_mul_right _ ih
def PfitD (ds : List PyData) (d : PyData) : Prop := ∃ (shows : Pw) (sums : List Nat), 0 < shows.length ∧ shows.length ≤ 3 ∧ (∀ m ∈ shows, m.length ≤ 10) ∧ SumOk sums ∧ ds = [encP shows, encM sums] ∧ d = .list ((fitp shows sums).map encP)
/-- the sizes of what is found -/
theorem fit_sz {shows : Pw} : ∀ (qs : List (Nat × Nat)) (found : List Pw) (n : Nat), (∀ p ∈ found, p.length = shows.length ∧ ∀ m ∈ p, m.length = n) → ∀ p ∈ qs.foldl (fstep shows) found, p.length = shows.length ∧ ∀ m ∈ p, m.length = n + qs.length
  | [], found, n, h, p, hp => h p hp
  | q :: qs, found, n, h, p, hp => by
    rw [List.foldl_cons] at hp
    have := fit_sz qs (fstep shows found q) (n + 1) (fun p' hp' => ?_) p hp
    · refine ⟨this.1, fun m hm => ?_⟩
      rw [this.2 m hm, List.length_cons]; omega
    · unfold fstep at hp'
      obtain ⟨pw, h1, h2⟩ := List.mem_flatMap.mp hp'
      obtain ⟨parts, _, rfl⟩ := List.mem_map.mp h2
      obtain ⟨g1, g2⟩ := h pw h1
      unfold share
      refine ⟨by rw [List.length_map, List.length_zipIdx, g1], fun m hm => ?_⟩
      obtain ⟨r, hr, rfl⟩ := List.mem_map.mp hm
      have : r.1 ∈ pw := by
        have := List.mem_zipIdx' hr
        rw [this.2]
        exact List.getElem_mem _
      rw [List.length_append, g2 _ this]; rfl
theorem fitp_sz {shows : Pw} {sums : List Nat} : ∀ p ∈ fitp shows sums, p.length = shows.length ∧ ∀ m ∈ p, m.length = sums.length := fun p hp => by
  have := fit_sz sums.zipIdx [List.replicate shows.length []] 0 (fun q hq => ?_) p hp
  · rw [List.length_zipIdx, Nat.zero_add] at this; exact this
  · rw [List.mem_singleton.mp hq]
    exact ⟨List.length_replicate, fun m hm => by rw [(List.mem_replicate.mp hm).2]; rfl⟩
theorem mem_zs (n : Nat) (m : List Nat) : decide (((n : Nat) : Int) ∈ zs m) = decide (n ∈ m) := by
  have : (((n : Nat) : Int) ∈ zs m) ↔ n ∈ m := by
    unfold zs
    rw [List.mem_map]
    constructor
    · rintro ⟨k, hk, e⟩
      have : k = n := by omega
      rw [← this]; exact hk
    · intro h; exact ⟨n, h, rfl⟩
  exact decide_eq_decide.mpr this
theorem rd_inM {K : PySem.W.Frag} {n : Nat} {m : List Nat} : RDD K (rIn K false) (.int (n : Nat)) (encM m) (.bool (decide (n ∈ m))) := by
  rw [encM_zs, ← mem_zs]
  exact rd_inT
theorem rd_notInM {K : PySem.W.Frag} {n : Nat} {m : List Nat} : RDD K (rIn K true) (.int (n : Nat)) (encM m) (.bool (!decide (n ∈ m))) := by
  rw [encM_zs, ← mem_zs]
  exact rd_notInT
end NB
end S_NbM5

section S_NbM6
set_option Elab.async false
set_option linter.all false
set_option maxRecDepth 100000
set_option maxHeartbeats 4000000
namespace NB
open PySem PySem.Spec PyProof.Rows L2 PySem.W

theorem cut1 (ds : List PyData) : cutD ds (some 1) none = ds.drop 1 := by
  unfold cutD
  rw [HT.sIx_none, show (some (1 : Int)) = some ((1 : Nat) : Int) from rfl, HT.sIx_nat]
  cases ds with
  | nil => rfl
  | cons d ds =>
    have : min 1 (d :: ds).length = 1 := by rw [List.length_cons]; omega
    rw [this, List.take_of_length_le]
    rw [List.length_drop]; exact Nat.le_refl _
/-! ### noughts of two powers -/
abbrev Gr : Type := List (Pw × List Pw)
def grpF (ps : List Pw) : Gr := ps.foldl (fun l p => grp l (facs p) p) []
def nlot (l : List Pw) : List Fm := (l.drop 1).map fun p => [(l.headD [], -1), (p, 1)]
def nbl (g : List (List Nat × Nat)) (sums : List Nat) : List Fm := (grpF (srt encP (fitp (shows g) sums))).flatMap fun x => nlot x.2
theorem al_F (x y : Fm) : alike (encF x) (encF y) = true := by
  unfold encF; rw [alike]; exact alikeAll_map al_F1 x y
theorem sok_F {xs : List Fm} (h : xs.length ≤ 100000) : SOk (xs.map encF) := sok_map al_F (fun _ => ⟨_, rfl⟩) (fun x => Nat.le_trans (dp_F x) (by decide)) h
def KindOk (g : List (List Nat × Nat)) : Prop := g.length ≤ 3 ∧ (∀ x ∈ g, x.2 ≤ 3 ∧ x.1.length ≤ 2) ∧ 0 < (shows g).length ∧ (shows g).length ≤ 3
def PnbN (ds es : List PyData) : Prop := ∃ (g : List (List Nat × Nat)) (sums : List Nat), KindOk g ∧ SumOk sums ∧ ds = [encG g, encM sums] ∧ es = (srt encF (nbl g sums)).map encF
theorem fitp_len {shows : Pw} {sums : List Nat} (h3 : shows.length ≤ 3) (ok : SumOk sums) : (fitp shows sums).length ≤ 4096 := by
  unfold fitp
  have h := fold_len64 h3 ok sums.length ok.1
  have : (sums.zipIdx).take sums.length = sums.zipIdx := by
    rw [List.take_of_length_le]; rw [List.length_zipIdx]; exact Nat.le_refl _
  rw [this] at h
  exact Nat.le_trans h (Nat.le_trans (Nat.pow_le_pow_right (by decide) ok.1) (by decide))
/-- how much all groups hold -/
def gsum (l : Gr) : Nat := (l.map fun x => x.2.length).sum
theorem gsum_grp (l : Gr) (k p : Pw) : gsum (grp l k p) = gsum l + 1 := by
  have key : ∀ (l : Gr) (v : List Pw) (o : List Pw), (lk l k).getD [] = o → v.length = o.length + 1 → gsum (put l k v) = gsum l + 1 := by
    intro l
    induction l with
    | nil =>
      intro v o h1 h2
      have : o = [] := h1.symm
      subst this
      show (v.length + 0) = 0 + 1
      rw [h2]; rfl
    | cons a r ih =>
      intro v o h1 h2
      obtain ⟨a, w⟩ := a
      by_cases e : a = k
      · rw [put_eq e]
        rw [lk_eq e] at h1
        have : w = o := h1
        subst this
        unfold gsum
        rw [List.map_cons, List.map_cons, List.sum_cons, List.sum_cons]
        show v.length + _ = w.length + _ + 1
        omega
      · rw [put_ne e]
        rw [lk_ne e] at h1
        have := ih v o h1 h2
        unfold gsum at this ⊢
        rw [List.map_cons, List.map_cons, List.sum_cons, List.sum_cons, this]
        omega
  exact key l _ _ rfl (by rw [List.length_append]; rfl)
theorem gsum_fold : ∀ (ps : List Pw) (l : Gr), gsum (ps.foldl (fun l p => grp l (facs p) p) l) = gsum l + ps.length
  | [], l => rfl
  | p :: ps, l => by
    rw [List.foldl_cons, gsum_fold ps, gsum_grp, List.length_cons]; omega
theorem nlot_len (l : List Pw) : (nlot l).length ≤ l.length := by
  unfold nlot
  rw [List.length_map, List.length_drop]; omega
theorem flat_nlot (l : Gr) : (l.flatMap fun x => nlot x.2).length ≤ gsum l := by
  induction l with
  | nil => exact Nat.le_refl _
  | cons x l ih =>
    have := nlot_len x.2
    unfold gsum at ih ⊢
    rw [List.flatMap_cons, List.length_append, List.map_cons, List.sum_cons]; omega
theorem gsum_take (l : Gr) (i : Nat) : gsum (l.take i) ≤ gsum l := by
  unfold gsum
  rw [List.map_take]
  exact sum_take_le _ _
theorem grp_ne {l : Gr} (h : ∀ x ∈ l, x.2 ≠ []) (k p : Pw) : ∀ x ∈ grp l k p, x.2 ≠ [] := by
  have key : ∀ (l : Gr) (v : List Pw), v ≠ [] → (∀ x ∈ l, x.2 ≠ []) → ∀ x ∈ put l k v, x.2 ≠ [] := by
    intro l v hv
    induction l with
    | nil => intro _ x hx; rw [List.mem_singleton.mp hx]; exact hv
    | cons a r ih =>
      intro h x hx
      obtain ⟨a, w⟩ := a
      by_cases e : a = k
      · rw [put_eq e] at hx
        rcases List.mem_cons.mp hx with rfl | hx
        · exact hv
        · exact h x (List.mem_cons_of_mem _ hx)
      · rw [put_ne e] at hx
        rcases List.mem_cons.mp hx with rfl | hx
        · exact h _ List.mem_cons_self
        · exact ih (fun y hy => h y (List.mem_cons_of_mem _ hy)) x hx
  exact key l _ (by simp) h
theorem grpF_ne (ps : List Pw) : ∀ x ∈ grpF ps, x.2 ≠ [] := by
  unfold grpF
  have : ∀ (ps : List Pw) (l : Gr), (∀ x ∈ l, x.2 ≠ []) → ∀ x ∈ ps.foldl (fun l p => grp l (facs p) p) l, x.2 ≠ [] := by
    intro ps
    induction ps with
    | nil => intro l h; exact h
    | cons p ps ih => intro l h; exact ih _ (grp_ne h _ _)
  exact this ps [] fun x hx => by cases hx

/-! ### the mean over a lot -/
def leftOf (lot : List Nat) (p : Pw) : Pw := p.zipIdx.map fun q => if q.2 ∈ lot then List.replicate q.1.length 0 else q.1
def inLot (lot : List Nat) (p : Pw) : Pw := (p.zipIdx.filter fun q => decide (q.2 ∈ lot)).map (·.1)
def gmo (lot : List Nat) (f : Fm) : List (Pw × Fm) := f.foldl (fun l x => grp l (leftOf lot x.1) (facs (inLot lot x.1), x.2)) []
def mwish (f : Fm) : Fm := gath (f.map fun p => (srt encM p.1, p.2))
def mo (f : Fm) (lot : List Nat) : List (Pw × Fm) := ((srt encP ((gmo lot f).map (·.1))).map fun k => (k, mwish ((lk (gmo lot f) k).getD []))).filter fun x => decide (x.2 ≠ [])
def encT1 (x : Pw × Fm) : PyData := .tuple [encP x.1, encF x.2]
@[simp] theorem im_encT1 (x : Pw × Fm) : im (encT1 x) = true := by
  show (im (encP x.1) && (im (encF x.2) && true)) = true
  rw [im_encP, im_encF]; rfl
def encT (l : List (Pw × Fm)) : PyData := .tuple (l.map encT1)
@[simp] theorem im_encT (l : List (Pw × Fm)) : im (encT l) = true := im_tupm _ im_encT1 l
def PmoD (ds : List PyData) (d : PyData) : Prop := ∃ (b : Nat) (f : Fm) (lot : List Nat), BdF b f ∧ (b + 1) * f.length ≤ 4000 ∧ f.length ≤ 100 ∧ b ≤ 4000 ∧ SzF f ∧ (∀ x ∈ f, ∀ m ∈ x.1, 0 < m.length ∧ m.length ≤ 100) ∧ lot.length ≤ 1000 ∧ ds = [encF f, encM lot] ∧ d = encT (mo f lot)
theorem gmo_mem {lot : List Nat} {f : Fm} : ∀ x ∈ gmo lot f, ∀ y ∈ x.2, ∃ z ∈ f, y = (facs (inLot lot z.1), z.2) := by
  have key : ∀ (l : List (Pw × Fm)) (k : Pw) (v : Fm) (x : Pw × Fm), x ∈ put l k v → x ∈ l ∨ x = (k, v) := by
    intro l k v x
    induction l with
    | nil => intro h; exact .inr (List.mem_singleton.mp h)
    | cons a r ih =>
      intro h
      obtain ⟨a, w⟩ := a
      by_cases e : a = k
      · rw [put_eq e] at h
        rcases List.mem_cons.mp h with h | h
        · exact .inr (by rw [h, e])
        · exact .inl (List.mem_cons_of_mem _ h)
      · rw [put_ne e] at h
        rcases List.mem_cons.mp h with h | h
        · exact .inl (by rw [h]; exact List.mem_cons_self)
        · rcases ih h with h | h
          · exact .inl (List.mem_cons_of_mem _ h)
          · exact .inr h
  have : ∀ (g : Fm) (l : List (Pw × Fm)), (∀ z ∈ g, z ∈ f) → (∀ x ∈ l, ∀ y ∈ x.2, ∃ z ∈ f, y = (facs (inLot lot z.1), z.2)) → ∀ x ∈ g.foldl (fun l x => grp l (leftOf lot x.1) (facs (inLot lot x.1), x.2)) l, ∀ y ∈ x.2, ∃ z ∈ f, y = (facs (inLot lot z.1), z.2) := by
    intro g
    induction g with
    | nil => intro l _ h; exact h
    | cons z g ih =>
      intro l hg h
      refine ih _ (fun w hw => hg w (List.mem_cons_of_mem _ hw)) fun x hx y hy => ?_
      rcases key _ _ _ _ hx with hx | rfl
      · exact h x hx y hy
      · rcases List.mem_append.mp hy with hy | hy
        · cases e : lk l (leftOf lot z.1) with
          | none => rw [e] at hy; cases hy
          | some v => rw [e] at hy; exact h _ (lk_some_mem e) y hy
        · exact ⟨z, hg z List.mem_cons_self, List.mem_singleton.mp hy⟩
  exact this f [] (fun z hz => hz) fun x hx => by cases hx
theorem gmo_len {lot : List Nat} {f : Fm} : ∀ x ∈ gmo lot f, x.2.length ≤ f.length := fun x hx => by
  have := grp_len (n := 0) (ck := fun x : Pw × Rat => leftOf lot x.1) (cv := fun x : Pw × Rat => (facs (inLot lot x.1), x.2)) f [] (fun p hp => by cases hp) x hx
  rw [Nat.zero_add] at this
  exact this
theorem gmo_keys {lot : List Nat} {f : Fm} : (gmo lot f).length ≤ f.length := by
  have : ∀ (g : Fm) (l : List (Pw × Fm)), (g.foldl (fun l x => grp l (leftOf lot x.1) (facs (inLot lot x.1), x.2)) l).length ≤ l.length + g.length := by
    intro g
    induction g with
    | nil => intro l; exact Nat.le_refl _
    | cons z g ih =>
      intro l
      have h1 := ih (grp l (leftOf lot z.1) (facs (inLot lot z.1), z.2))
      have h2 : (grp l (leftOf lot z.1) (facs (inLot lot z.1), z.2)).length ≤ l.length + 1 := len_put l _ _
      rw [List.foldl_cons, List.length_cons]; omega
  have := this f []
  rw [List.length_nil, Nat.zero_add] at this
  exact this
theorem inLot_sz {lot : List Nat} {p : Pw} (h : SzP p) : SzP (inLot lot p) := by
  unfold inLot
  refine ⟨?_, fun m hm => ?_⟩
  · rw [List.length_map]
    refine Nat.le_trans (List.length_filter_le _ _) ?_
    rw [List.length_zipIdx]; exact h.1
  · obtain ⟨q, hq, rfl⟩ := List.mem_map.mp hm
    have := List.mem_zipIdx' (List.mem_filter.mp hq).1
    rw [this.2]
    exact h.2 _ (List.getElem_mem _)
theorem facs_sz {p : Pw} (h : SzP p) : SzP (facs p) := by
  refine ⟨Nat.le_trans (len_facs p) h.1, fun m hm => ?_⟩
  have := (srt_perm encM _).mem_iff.mp hm
  exact h.2 m (List.mem_filter.mp this).1
end NB
end S_NbM6

section S_NbD6
set_option Elab.async false
set_option linter.all false
set_option maxRecDepth 100000
set_option maxHeartbeats 4000000
set_option exponentiation.threshold 100000
namespace NB
open PySem PySem.Spec PyProof.Rows L2
open Evl (Ex)
local macro_rules | `(tactic| walk_at "vd") => `(tactic| repeat' (first
  | exact vd_var rfl | exact vd_int | exact vd_bl | exact va_nil | exact vba_nil | exact vt_yes
  | with_reducible apply va_cons | with_reducible apply vt_test | with_reducible apply vt_not | with_reducible apply vt_B
  | with_reducible apply vd_tup | with_reducible apply vd_cb | with_reducible apply vd_op | with_reducible apply vd_un
  | exact rd_add | exact rd_ix0 rfl | exact rd_ix1 rfl | exact rd_I0 | exact rd_B0 | exact ru_I
  | exact rg_lenT | exact rg_lenL | exact rc_abs | exact rc_gcd
  | exact Nat.le_of_ble_eq_true rfl))
local macro_rules | `(tactic| walk_at "le") => `(tactic| repeat (first | exact Le.nil | apply Le.same | apply Le.drop))
section
variable {P : Program} {w : World} {K : PySem.W.Frag} {mg : Str → Option Value} {base : Heap}
theorem sc_fitting_powers : FnScope ["shows", "sums", "found", "column", "total", "places", "place", "seen", "more", "powers", "parts", "shares", "own"] ["shows", "sums"] (defScope (topS 22)) := ⟨rfl, rfl, rfl, by decide +kernel, rfl, by decide +kernel, by decide +kernel⟩
theorem cb_fitting_powers (W : Wd K mg) (c__shared : Cb P w K mg base "_shared" 4 ["total", "many"] (spN K (PshaN 4))) : Cb P w K mg base "fitting_powers" 5 ["shows", "sums"] (spD K PfitD) := by
  refine mk_cb W 11 (i := 22) rfl sc_fitting_powers (fun _ _ _ _ _ _ us hl => match us, hl with | [_, _], _ => rfl) (fun vs H Q E h => ?_) fun f cdv A outer s H vs Q E hr h => ⟨_, PSs.nox (
    (pss_cons (ps_set (i := 2) sc_fitting_powers.nd rfl (by first | exact Or.inl rfl | exact Or.inr rfl) (pe_lst (pa_cons (pe_op (op_mulX (K := K) rfl) (pe_tup (pa_cons (pe_tup pa_nil) pa_nil)) (pe_callB (cr_lenX (K := K) rfl) (by rfl) (W.free "len") (by decide +kernel) (pa_cons (pv 0) pa_nil))) pa_nil)))
  (pss_cons (ps_for PassesOwn.never rfl (pi_enumX (K := K) rfl rfl (W.free "enumerate") (pa_cons (pv 1) pa_nil)) (pg_tupX (n := 2) (K := K) rfl rfl (pgs_cons (pg_name (i := 3) sc_fitting_powers.nd rfl (by first | exact Or.inl rfl | exact Or.inr rfl)) (pgs_cons (pg_name (i := 4) sc_fitting_powers.nd rfl (by first | exact Or.inl rfl | exact Or.inr rfl)) pgs_nil))) (pss_cons (ps_setLc (i := 5) (own := [("place", 6), ("seen", 7)]) rfl sc_fitting_powers.nd rfl rfl (sw_true rfl rfl rfl (by decide +kernel)) (pi_enumX (K := K) rfl rfl (W.free "enumerate") (pa_cons (pv 0) pa_nil)) (blkOk_by (N := ["shows", "sums", "found", "column", "total", "places", "place", "seen", "more", "powers", "parts", "shares", "own"]) (sc := defScope (topS 22)) (by decide +kernel)) (fun _ _ _ _ _ => (pg_tupX (n := 2) (K := K) rfl rfl (pgs_cons (pg_name (i := 6) sc_fitting_powers.nd rfl (by first | exact Or.inl rfl | exact Or.inr rfl)) (pgs_cons (pg_name (i := 7) sc_fitting_powers.nd rfl (by first | exact Or.inl rfl | exact Or.inr rfl)) pgs_nil)))) (fun _ _ _ _ _ => (pts_one (pt_cmpR (op_inX (K := K) rfl) (pv 3) (pv 7) (by rfl)))) (fun _ _ _ _ _ => (pv 6)))
  (pss_cons (ps_set (i := 8) sc_fitting_powers.nd rfl (by first | exact Or.inl rfl | exact Or.inr rfl) (pe_lst pa_nil))
  (pss_cons (ps_for PassesOwn.never rfl (pi_seqX (K := K) rfl (pv 2)) (pg_name (i := 9) sc_fitting_powers.nd rfl (by first | exact Or.inl rfl | exact Or.inr rfl)) (pss_one (ps_for PassesOwn.never rfl (pi_seqX (K := K) rfl (pe_cb c__shared (hr.mono (by omega)) rfl (pa_cons (pv 4) (pa_cons (pe_callB (cr_lenX (K := K) rfl) (by rfl) (W.free "len") (by decide +kernel) (pa_cons (pv 5) pa_nil)) pa_nil)))) (pg_name (i := 10) sc_fitting_powers.nd rfl (by first | exact Or.inl rfl | exact Or.inr rfl)) (pss_cons (ps_set (i := 11) sc_fitting_powers.nd rfl (by first | exact Or.inl rfl | exact Or.inr rfl) (pe_dzipX (K := K) rfl rfl rfl (W.free "dict") rfl (W.free "zip") (pa_cons (pv 5) (pa_cons (pv 10) pa_nil))))
  (pss_one (ps_expr (pe_bmX (K := K) rfl PySem.F.plainAttrs_list PySem.F.slot_list_append PySem.F.type_list_append mt_append (pv 8) (pa_cons (pe_callTy (cr_tupX (K := K) rfl) (by rfl) (W.free "tuple") (by decide +kernel) (pa_cons (pe_lc (own := [("place", 6), ("own", 12)]) rfl sc_fitting_powers.nd (pi_enumX (K := K) rfl rfl (W.free "enumerate") (pa_cons (pv 9) pa_nil)) (blkOk_by (N := ["shows", "sums", "found", "column", "total", "places", "place", "seen", "more", "powers", "parts", "shares", "own"]) (sc := defScope (topS 22)) (by decide +kernel)) (fun _ _ _ _ _ => (pg_tupX (n := 2) (K := K) rfl rfl (pgs_cons (pg_name (i := 6) sc_fitting_powers.nd rfl (by first | exact Or.inl rfl | exact Or.inr rfl)) (pgs_cons (pg_name (i := 12) sc_fitting_powers.nd rfl (by first | exact Or.inl rfl | exact Or.inr rfl)) pgs_nil)))) (fun _ _ _ _ _ => pts_nil) (fun _ _ _ _ _ => (pe_op (op_addX (K := K) rfl) (pv 12) (pe_tup (pa_cons (pe_dget2 (Nat.lt_of_le_of_lt (Nat.add_le_add_left (by decide) _) hr.units) (pv 11) (pv 6) pe_int ⟨rfl, rfl, rfl, rfl⟩) pa_nil))))) pa_nil)) pa_nil))))))))
  (pss_one (ps_set (i := 2) sc_fitting_powers.nd rfl (by first | exact Or.inl rfl | exact Or.inr rfl) (pv 8)))))))
  (pss_one (ps_ret (pv 2)))))), body_D (F := As.emp) (fun ds d p => ?_) h⟩
  · obtain ⟨ds, d, p, hd, _⟩ := h
    rw [hd.len]
    obtain ⟨shows, sums, h0, h3, hm, ok, rfl, rfl⟩ := p
    rfl
  · obtain ⟨shows, sums, h0, h3, hm, ok, rfl, rfl⟩ := p
    let fd := fun i => ((sums.zipIdx).take i).foldl (fstep shows) [List.replicate shows.length []]
    have fl : ∀ i, i ≤ 2 → (fd i).length ≤ 4096 := fun i hi => Nat.le_trans (fold_len64 h3 ok i hi) (Nat.le_trans (Nat.pow_le_pow_right (by decide) hi) (by decide))
    refine vs_seq1 (vs_asg0 (d := .list ((fd 0).map encP)) (VN.dat (vn_lst (va_cons ?_ va_nil) (Nat.le_of_ble_eq_true rfl))) gd_name) ?_
    · refine VD.is (vd_op (vd_tup (va_cons (vd_tup va_nil (Nat.le_of_ble_eq_true rfl)) va_nil) (Nat.le_of_ble_eq_true rfl)) (vd_cb (va_cons (vd_var (d := .tuple (shows.map encM)) rfl) va_nil) rg_lenT) (rd_repT (n := (shows.map encM).length) (by rw [List.length_map]; exact h0) (by rw [List.length_map]; omega) (by simp) (Nat.le_of_ble_eq_true rfl))) ?_
      rw [List.length_map]
      exact congrArg PyData.tuple (rep_enc _ [])
    refine vs_seq1 (vs_forC (f := fun q : Nat × Nat => .tuple [.int (q.2 : Nat), .int (q.1 : Nat)]) (xs := sums.zipIdx) (fun i => [.d (encP shows), .d (encM sums), .d (.list ((fd i).map encP)), .no, .no, .no, .no, .no, .no, .no, .no, .no, .no]) ((vi_enum (k := false) (ds := sums.map fun n => .int (n : Nat)) (vb_var rfl)).is (enumD_map (fun n : Nat => PyData.int (n : Nat)) sums)) (Le.refl _) fun i q hq => ?_) ?_
    · have hi : i < 2 := by
        have := (List.getElem?_eq_some_iff.mp hq).1
        rw [List.length_zipIdx] at this
        have := ok.1
        omega
      have hq1 : q.1 ≤ 3 := by
        rw [List.getElem?_zipIdx] at hq
        obtain ⟨t, ht, rfl⟩ := Option.map_eq_some_iff.mp hq
        exact ok.2 t (List.mem_of_getElem? ht)
      have pl : (places q.2 shows).length ≤ 3 := Nat.le_trans (places_len _ _) h3
      have sl := split64 hq1 pl
      let G := fun pw : Pw => (splits q.1 (places q.2 shows).length).map fun parts => share (places q.2 shows) parts pw
      have Gl : ∀ pw, (G pw).length ≤ 64 := fun pw => by show (List.map _ _).length ≤ 64; rw [List.length_map]; exact sl
      have acl : ∀ j, (((fd i).take j).flatMap G).length ≤ 64 * 64 * 64 := fun j => by
        have h1 := flat_len (g := G) (n := 64) (xs := (fd i).take j) fun x _ => Gl x
        have h2 : ((fd i).take j).length ≤ 64 * 64 := by rw [List.length_take]; exact Nat.le_trans (Nat.min_le_right _ _) (Nat.le_trans (fold_len64 h3 ok i (by omega)) (Nat.le_trans (Nat.pow_le_pow_right (by decide) (by omega : i ≤ 1)) (by decide)))
        exact Nat.le_trans h1 (Nat.mul_le_mul_right _ h2)
      have acl2 : ∀ j, (((fd i).take j).flatMap G).length ≤ 90000 := fun j => by
        have h1 := flat_len (g := G) (n := 64) (xs := (fd i).take j) fun x _ => Gl x
        have h2 : ((fd i).take j).length ≤ 64 := by rw [List.length_take]; exact Nat.le_trans (Nat.min_le_right _ _) (Nat.le_trans (fold_len64 h3 ok i (by omega)) (Nat.le_trans (Nat.pow_le_pow_right (by decide) (by omega : i ≤ 1)) (by decide)))
        omega
      refine ⟨_, _, _, gd_tup (gds_cons gd_name (gds_cons gd_name gds_nil)) rfl, vs_seq1 (vs_asg0 (d := .list ((places q.2 shows).map fun n => .int (n : Nat))) (VN.dat ?_) gd_name) (vs_newLR (F2 := As.emp) (ds := (((fd i).take 0).flatMap G).map encP) (es := ((fd i).flatMap G).map encP) (env2 := [.d (encP shows), .d (encM sums), .d (.list ((fd i).map encP)), .d (.int (q.2 : Nat)), .d (.int (q.1 : Nat)), .d (.list ((places q.2 shows).map fun n => .int (n : Nat))), .no, .no, .no, .no, .no, .no, .no]) rfl (imA_map _ im_encP _) (vn_lst va_nil (Nat.le_of_ble_eq_true rfl)) (fun a ha => ?_) (Nat.lt_of_sub_eq_succ rfl) (vs_asg (vb_var rfl) gd_name)), ?_⟩
      · unfold places
        rw [List.map_map]
        refine vn_lc (ds := shows.zipIdx.map fun r => .tuple [.int (r.2 : Nat), encM r.1]) ((vi_enum (k := false) (ds := shows.map encM) (vb_var rfl)).is (enumD_map encM shows)) (by rw [List.length_map]; have := List.length_filter_le (fun q' : List Nat × Nat => decide (q.2 ∈ q'.1)) shows.zipIdx; rw [List.length_zipIdx] at this; omega) (lc_filter fun r hr => ⟨_, _, gd_tup (gds_cons gd_name (gds_cons gd_name gds_nil)) rfl, by simp, (vt_test (vd_op (vd_var rfl) (vd_var rfl) rd_inM)), fun _ => vb_var rfl⟩)
      · refine (vs_forT (f := encP) (xs := fd i) (fun j => [.d (encP shows), .d (encM sums), .d (.list ((fd i).map encP)), .d (.int (q.2 : Nat)), .d (.int (q.1 : Nat)), .d (.list ((places q.2 shows).map fun n => .int (n : Nat))), .no, .no, .v (.ref a), .no, .no, .no, .no]) (fun j => As.emp.and (.lst K a ((((fd i).take j).flatMap G).map encP) (imA_map _ im_encP _))) (vi_seqL (vb_var rfl)) (Le.refl _) (fun H h => h) fun j pw hj => ?_).le (.nx (fun e he => ⟨e, he, Le.refl _⟩) fun H h => by rw [List.take_length] at h; exact h)
        have e1 : ∀ j2, (((fd i).take j).flatMap G ++ (G pw).take j2).length < 100000 := fun j2 => by
          have h1 := acl2 j
          have h2 := Gl pw
          rw [List.length_append, List.length_take]; omega
        refine ⟨_, _, _, gd_name, (vs_forT (f := encM) (xs := splits q.1 (places q.2 shows).length) (fun j2 => [.d (encP shows), .d (encM sums), .d (.list ((fd i).map encP)), .d (.int (q.2 : Nat)), .d (.int (q.1 : Nat)), .d (.list ((places q.2 shows).map fun n => .int (n : Nat))), .no, .no, .v (.ref a), .d (encP pw), .no, .no, .no]) (fun j2 => As.emp.and (.lst K a ((((fd i).take j).flatMap G ++ (G pw).take j2).map encP) (imA_map _ im_encP _))) (vi_seqL (vb_new (vn_call (PN := PshaN 4) (ds := [.int (q.1 : Nat), .int ((places q.2 shows).length : Nat)]) (va_cons (vd_var rfl) (va_cons ((vd_cb (va_cons (vd_var rfl) va_nil) rg_lenL).is ?_) va_nil)) ⟨q.1, (places q.2 shows).length, by omega, by omega, by omega, rfl, rfl⟩) (imA_map _ im_encM _))) (Le.refl _) (fun H h => by refine ⟨trivial, ?_⟩; obtain ⟨xs, h1, h2⟩ := h.2; exact ⟨xs, h1, by simpa using h2⟩) fun j2 parts hj2 => ?_).le (.nx (fun e he => ⟨e, he, Le.refl _⟩) fun H h => ?_), ?_⟩
        · rw [List.length_map]
        · have hp2 := List.mem_of_getElem? hj2
          have e2 : (G pw).take (j2 + 1) = (G pw).take j2 ++ [share (places q.2 shows) parts pw] := by
            rw [List.take_add_one]
            congr 1
            show (List.map _ _)[j2]?.toList = _
            rw [List.getElem?_map, hj2]; rfl
          have e3 : (((fd i).take j).flatMap G ++ (G pw).take (j2 + 1)).map encP = (((fd i).take j).flatMap G ++ (G pw).take j2).map encP ++ [encP (share (places q.2 shows) parts pw)] := by
            rw [e2, ← List.append_assoc, List.map_append]; rfl
          refine ⟨_, _, _, gd_name, vs_seq1 (vs_dz (k := true) (l := false) (ns := zs (places q.2 shows)) (ms := zs parts) ((vd_var rfl).is ?_) ((vd_var rfl).is (encM_zs parts)) (by unfold zs; rw [List.length_map]; omega)) ((vs_append (m' := by rw [← e3]; exact imA_map _ im_encP _) (d := encP (share (places q.2 shows) parts pw)) rfl List.mem_cons_self ?_ As.off_emp (by rw [List.length_map]; exact e1 j2)).le (.nx (fun e he => ⟨e, he, Le.refl _⟩) fun H h => ?_)), ?_⟩
          · unfold zs dk
            rw [List.map_map]; rfl
          · refine VD.is (vd_cb (va_cons (VN.dat (vn_lc (os := (share (places q.2 shows) parts pw).map encM) ((vi_enum (k := false) (ds := pw.map encM) (vb_var rfl)).is (enumD_map encM pw)) ?_ ?_)) va_nil) rg_tupL) rfl
            · have : pw ∈ fd i := List.mem_of_getElem? hj
              have sz := (fit_sz ((sums.zipIdx).take i) [List.replicate shows.length []] 0 (fun q' hq' => by rw [List.mem_singleton.mp hq']; exact ⟨List.length_replicate, fun m hm => by rw [(List.mem_replicate.mp hm).2]; rfl⟩) pw this).1
              unfold share
              rw [List.length_map, List.length_map, List.length_zipIdx]; omega
            · unfold share
              rw [List.map_map]
              refine lc_map fun r hr => ⟨_, _, gd_tup (gds_cons gd_name (gds_cons gd_name gds_nil)) rfl, by simp, vt_yes, vb_im (d := encM (r.1 ++ [(shrN ((places q.2 shows).zip parts) r.2 none).getD 0])) ?_ (im_encM _)⟩
              have rl : r.1.length ≤ 10 := by
                have : pw ∈ fd i := List.mem_of_getElem? hj
                have sz := (fit_sz ((sums.zipIdx).take i) [List.replicate shows.length []] 0 (fun q' hq' => by rw [List.mem_singleton.mp hq']; exact ⟨List.length_replicate, fun m hm => by rw [(List.mem_replicate.mp hm).2]; rfl⟩) pw this).2 r.1 (by
                  have := List.mem_zipIdx' hr
                  rw [this.2]
                  exact List.getElem_mem _)
                rw [sz, List.length_take]; omega
              refine VD.is (vd_op (vd_var (d := .tuple (r.1.map fun n => .int (n : Nat))) rfl) (vd_tup (va_cons ((vd_dzget (l := (zs (places q.2 shows)).zip (zs parts)) rfl (vd_var rfl) vd_int).is (by rw [share_val])) va_nil) (Nat.le_of_ble_eq_true rfl)) (rd_catT (by rw [List.length_map]; show r.1.length + 1 ≤ 100000; omega))) ?_
              unfold encM
              rw [List.map_append]; rfl
          · refine ⟨trivial, ?_⟩
            obtain ⟨xs, h1, h2⟩ := h.2
            exact ⟨xs, h1, by rw [e3]; exact h2⟩
          · walk_at "le"
        · refine ⟨trivial, ?_⟩
          obtain ⟨xs, h1, h2⟩ := h.2
          refine ⟨xs, h1, ?_⟩
          rw [flat_take G _ hj]
          have : (G pw).take (splits q.1 (places q.2 shows).length).length = G pw := by
            rw [List.take_of_length_le]; show (List.map _ _).length ≤ _; rw [List.length_map]; exact Nat.le_refl _
          rw [this] at h2
          exact h2
        · walk_at "le"
      · show Le _ [_, _, .d (.list ((((sums.zipIdx).take (i + 1)).foldl (fstep shows) [List.replicate shows.length []]).map encP)), _, _, _, _, _, _, _, _, _, _]
        rw [fold_take _ _ _ hq]
        walk_at "le"
    · show VS K [] As.emp _ [_, _, .d (.list ((((sums.zipIdx).take (sums.zipIdx).length).foldl (fstep shows) [List.replicate shows.length []]).map encP)), _, _, _, _, _, _, _, _, _, _] _
      rw [List.take_length]
      exact vs_ret0 (vd_var rfl)

theorem sc_nought_basis : FnScope ["kinds", "sums", "lots", "powers", "found", "some"] ["kinds", "sums"] (defScope (topS 23)) := ⟨rfl, rfl, rfl, by decide +kernel, rfl, by decide +kernel, by decide +kernel⟩
theorem cb_nought_basis (W : Wd K mg) (c_fitting_powers : Cb P w K mg base "fitting_powers" 5 ["shows", "sums"] (spD K PfitD)) (c_kind_samples : Cb P w K mg base "kind_samples" 11 ["kinds"] (spD K PkinD)) (c_tuple_of : Cb P w K mg base "tuple_of" 10 ["thing"] (spD K (PtupD 10))) (c_factors_of : Cb P w K mg base "factors_of" 1 ["powers"] (spD K PfacD)) : Cb P w K mg base "nought_basis" 13 ["kinds", "sums"] (spN K PnbN) := by
  obtain ⟨aO, hO, sO⟩ := W.one
  obtain ⟨aM, hM, sM⟩ := W.minus
  refine mk_cb W 12 (i := 23) rfl sc_nought_basis (fun _ _ _ _ _ _ us hl => match us, hl with | [_, _], _ => rfl) (fun vs H Q E h => ?_) fun f cdv A outer s H vs Q E hr h => ⟨_, PSs.nox (
    (pss_cons (ps_set (i := 2) sc_nought_basis.nd rfl (by first | exact Or.inl rfl | exact Or.inr rfl) (pe_dcX (P := P) (w := w) (K := K) rfl rfl rfl (enc := encP)))
  (pss_cons (ps_for PassesOwn.never rfl (pi_listX (K := K) rfl (pe_callB (cr_sortLX (K := K) rfl hr.units) (by rfl) (W.free "sorted") (by decide +kernel) (pa_cons (pe_cb c_fitting_powers (hr.mono (by omega)) rfl (pa_cons (pe_cb c_kind_samples (hr.mono (by omega)) rfl (pa_cons (pv 0) pa_nil)) (pa_cons (pe_cb c_tuple_of (hr.mono (by omega)) rfl (pa_cons (pv 1) pa_nil)) pa_nil))) pa_nil))) (pg_name (i := 3) sc_nought_basis.nd rfl (by first | exact Or.inl rfl | exact Or.inr rfl)) (pss_one (ps_expr (pe_bmX (K := K) rfl PySem.F.plainAttrs_list PySem.F.slot_list_append PySem.F.type_list_append mt_append (pe_dmX (P := P) (w := w) (K := K) rfl rfl rfl kP PySem.F.slot_dict_setdefault PySem.F.type_dict_setdefault (mt_setdCX (P := P) (w := w) (K := K) rfl rfl rfl kP hr.units) (pv 2) (pa_cons (pe_cb c_factors_of (hr.mono (by omega)) rfl (pa_cons (pv 3) pa_nil)) (pa_cons (pe_lst pa_nil) pa_nil))) (pa_cons (pv 3) pa_nil)))))
  (pss_cons (ps_set (i := 4) sc_nought_basis.nd rfl (by first | exact Or.inl rfl | exact Or.inr rfl) (pe_lst pa_nil))
  (pss_cons (ps_lock (ps_for PassesOwn.never rfl (pi_valsC (P := P) (w := w) rfl rfl (pv 2)) (pg_name (i := 5) sc_nought_basis.nd rfl (by first | exact Or.inl rfl | exact Or.inr rfl)) (pss_one (ps_expr (pe_bmX (K := K) rfl PySem.F.plainAttrs_list PySem.F.slot_list_extend PySem.F.type_list_extend mt_extend (pv 4) (pa_cons (pe_lc (own := [("powers", 3)]) rfl sc_nought_basis.nd (pi_seqX (K := K) rfl (pe_slice (sl_listX (K := K) rfl) (pv 5) (po_some pe_int) po_none)) (blkOk_by (N := ["kinds", "sums", "lots", "powers", "found", "some"]) (sc := defScope (topS 23)) (by decide +kernel)) (fun _ _ _ _ _ => (pg_name (i := 3) sc_nought_basis.nd rfl (by first | exact Or.inl rfl | exact Or.inr rfl))) (fun _ _ _ _ _ => pts_nil) (fun _ _ _ _ _ => (pe_tup (pa_cons (pe_tup (pa_cons (pe_ix (ix_seqX (K := K) rfl) (pv 5) pe_int (fun _ _ => rfl)) (pa_cons (pe_glob (v := .ref aM) rfl hM rfl) pa_nil))) (pa_cons (pe_tup (pa_cons (pv 3) (pa_cons (pe_glob (v := .ref aO) rfl hO rfl) pa_nil))) pa_nil))))) pa_nil))))))
  (pss_one (ps_ret (pe_callB (cr_sortLX (K := K) rfl hr.units) (by rfl) (W.free "sorted") (by decide +kernel) (pa_cons (pv 4) pa_nil))))))))), body_N (F := As.emp) (fun ds d p => ?_) h⟩
  · obtain ⟨ds, d, p, hd, _⟩ := h
    rw [hd.len]
    obtain ⟨g, sums, hg1, ok, rfl, rfl⟩ := p
    rfl
  · obtain ⟨g, sums, ⟨hg1, hg2, hg3, hg4⟩, ok, rfl, rfl⟩ := p
    have fl := fitp_len (sums := sums) hg4 ok
    have hsh : ∀ m ∈ shows g, m.length ≤ 10 := fun m hm => by
      unfold shows at hm
      obtain ⟨x, hx, hm⟩ := List.mem_flatMap.mp hm
      rw [(List.mem_replicate.mp hm).2]
      have := (hg2 x hx).2
      omega
    have xl : (srt encP (fitp (shows g) sums)).length ≤ 4096 := by rw [(srt_perm encP _).length_eq]; exact fl
    refine vs_group (E := kP) (encv := encP) (f := encP) (xs := srt encP (fitp (shows g) sums)) (ck := facs) (cv := fun p => p) (tk := tCall (spD K PfacD) [] E0 (tCons (tVar 3) tNil)) (tv := tVar 3) im_encP (Nat.lt_of_sub_eq_succ rfl) (by omega) (fun a => ?_) (fun a x hx => ?_) ?_
    · refine vi_lstB (vb_new ((vn_cb (va_cons (vd_call (P := PfitD) (va_cons (vd_call (P := PkinD) (va_cons (vd_var rfl) va_nil) ⟨g, by omega, fun x hx => ⟨by have := (hg2 x hx).1; omega, by have := (hg2 x hx).2; omega⟩, rfl, rfl⟩) (va_cons ((vd_call (P := PtupD 10) (va_cons (vd_var rfl) va_nil) ⟨encM sums, Nat.lt_of_le_of_lt (dp_M _) (by decide), lnk_M (by have := ok.1; omega), rfl, rfl⟩).is (tupOf_im _ (im_encM _))) va_nil)) ⟨shows g, sums, hg3, hg4, hsh, ok, rfl, rfl⟩) va_nil) (rcn_sortL (sok_P (by omega)))).is (sortD_map encP _)) (imA_map _ im_encP _))
    · have hxm := (srt_perm encP _).mem_iff.mp hx
      have sz := fitp_sz x hxm
      refine ⟨_, _, _, gd_name, rfl, vd_call (P := PfacD) (va_cons (vd_var rfl) va_nil) ⟨false, x, by omega, rfl, rfl⟩, vd_var rfl, ?_, ?_, fun D σ H s k => k σ H (Ex.refl _) s⟩
      · intro y hy
        have : y = .d (encG g) ∨ y = .d (encM sums) ∨ y = .v (.ref a) ∨ y = .d (encP x) ∨ y = .no ∨ y = .no := by simpa [enter] using hy
        rcases this with rfl | rfl | rfl | rfl | rfl | rfl
        · exact im_encG g
        · exact im_encM sums
        · trivial
        · exact im_encP x
        · trivial
        · trivial
      · walk_at "le"
    · have gl : gsum (grpF (srt encP (fitp (shows g) sums))) ≤ 4096 := by
        unfold grpF
        rw [gsum_fold]
        show 0 + _ ≤ 4096
        omega
      let L := grpF (srt encP (fitp (shows g) sums))
      refine vs_newLR (F2 := As.emp) (ds := ((L.take 0).flatMap fun x => nlot x.2).map encF) (es := (nbl g sums).map encF) (env2 := [.d (encG g), .d (encM sums), .no, .no, .no, .no]) rfl (imA_map _ im_encF _) (vn_lst va_nil (Nat.le_of_ble_eq_true rfl)) (fun a ha => ?_) (Nat.lt_of_sub_eq_succ rfl) ?_
      · refine (vs_forVals (l := L) (E := kP) (enc := encP) (encv := encP) (fun j => [.d (encG g), .d (encM sums), .no, .no, .v (.ref a), .no]) (fun j => As.emp.and (.lst K a (((L.take j).flatMap fun x => nlot x.2).map encF) (imA_map _ im_encF _))) rfl ?_ (fun b => by walk_at "le") (fun H h => h) (fun j => ?_) (fun b hb => ?_) fun j x hx => ?_).le (.nx (fun e he => ⟨e, he, Le.refl _⟩) fun H h => by rw [List.take_length] at h; exact h)
        · intro y hy
          have : y = .d (encG g) ∨ y = .d (encM sums) ∨ y = .no ∨ y = .no ∨ y = .v (.ref a) ∨ y = .no := by simpa [enter] using hy
          rcases this with rfl | rfl | rfl | rfl | rfl | rfl <;> trivial
        · intro y hy
          have : y = .d (encG g) ∨ y = .d (encM sums) ∨ y = .no ∨ y = .no ∨ y = .v (.ref a) ∨ y = .no := by simpa using hy
          rcases this with rfl | rfl | rfl | rfl | rfl | rfl <;> trivial
        · have nb : a ≠ b := fun e => hb (by rw [e]; simp)
          exact ⟨As.offX_and As.offX_emp (As.offX_lst nb), fun j => As.offX_and As.offX_emp (As.offX_lst nb)⟩
        · have xne := grpF_ne _ x (List.mem_of_getElem? hx)
          have l1 : (((L.take j).flatMap fun x => nlot x.2)).length + (nlot x.2).length ≤ 4096 := by
            have h1 := flat_nlot (L.take (j + 1))
            rw [flat_take _ _ hx, List.length_append] at h1
            have h2 := gsum_take L (j + 1)
            have h3 : gsum L ≤ 4096 := gl
            omega
          have e1 : ((L.take (j + 1)).flatMap fun x => nlot x.2).map encF = ((L.take j).flatMap fun x => nlot x.2).map encF ++ (nlot x.2).map encF := by rw [flat_take _ _ hx, List.map_append]
          refine ⟨_, _, _, gd_name, (vs_extend (m' := by rw [← e1]; exact imA_map _ im_encF _) rfl List.mem_cons_self (vn_lc0 (ds := (x.2.drop 1).map encP) (os := (nlot x.2).map encF) (vi0_seqL ((VN.dat (vn_sl (vd_var rfl) part_int part_none)).is (by rw [cut1, List.map_drop]))) (by rw [List.length_map]; omega) ?_) As.off_emp (by rw [List.length_map, List.length_map]; omega)).le (.nx (fun e he => ⟨e, he, Le.refl _⟩) fun H h => ?_), ?_⟩
          · unfold nlot
            rw [List.map_map]
            obtain ⟨k0, v0⟩ := x
            cases v0 with
            | nil => exact absurd rfl xne
            | cons q qs =>
              exact lc_map fun p hp => ⟨_, _, gd_name, by simp, vt_yes, vb_im (d := encF [(q, -1), (p, 1)]) (vd_tup (va_cons (show VD K _ _ (encF1 (q, -1)) from vd_tup (va_cons (vd_op (vd_var rfl) vd_int (rd_ixL0 rfl)) (va_cons (vd_kM sM) va_nil)) (Nat.le_of_ble_eq_true rfl)) (va_cons (show VD K _ _ (encF1 (p, 1)) from vd_tup (va_cons (vd_var rfl) (va_cons (vd_kO sO) va_nil)) (Nat.le_of_ble_eq_true rfl)) va_nil)) (Nat.le_of_ble_eq_true rfl)) (im_encF _)⟩
          · refine ⟨trivial, ?_⟩
            obtain ⟨ys, h1, h2⟩ := h.2
            exact ⟨ys, h1, by rw [e1]; exact h2⟩
          · walk_at "le"
      · refine vs_retN0 ((vn_cb (va_cons (vd_var (d := .list ((nbl g sums).map encF)) rfl) va_nil) (rcn_sortL (sok_F ?_))).is (sortD_map encF _))
        have h1 := flat_nlot L
        have h3 : gsum L ≤ 4096 := gl
        show (L.flatMap fun x => nlot x.2).length ≤ 100000
        omega
end
end NB
end S_NbD6

section S_NbD7
set_option Elab.async false
set_option linter.all false
set_option maxRecDepth 100000
set_option maxHeartbeats 4000000
set_option exponentiation.threshold 100000
namespace NB
open PySem PySem.Spec PyProof.Rows L2
local macro_rules | `(tactic| walk_at "vd") => `(tactic| repeat' (first
  | exact vd_var rfl | exact vd_int | exact vd_bl | exact va_nil | exact vba_nil | exact vt_yes
  | with_reducible apply va_cons | with_reducible apply vt_test | with_reducible apply vt_not | with_reducible apply vt_B
  | with_reducible apply vd_tup | with_reducible apply vd_cb | with_reducible apply vd_op | with_reducible apply vd_un
  | exact rd_add | exact rd_ix0 rfl | exact rd_ix1 rfl | exact rd_I0 | exact rd_B0 | exact ru_I
  | exact rg_lenT | exact rg_lenL | exact rc_abs | exact rc_gcd
  | exact Nat.le_of_ble_eq_true rfl))
local macro_rules | `(tactic| walk_at "le") => `(tactic| repeat (first | exact Le.nil | apply Le.same | apply Le.drop))
section
variable {P : Program} {w : World} {K : PySem.W.Frag} {mg : Str → Option Value} {base : Heap}
theorem sc_mean_over : FnScope ["form", "lot", "sums", "powers", "x", "left", "place", "own", "drawn", "found", "pair"] ["form", "lot"] (defScope (topS 19)) := ⟨rfl, rfl, rfl, by decide +kernel, rfl, by decide +kernel, by decide +kernel⟩
theorem cb_mean_over (W : Wd K mg) (c_tuple_of : Cb P w K mg base "tuple_of" 10 ["thing"] (spD K (PtupD 10))) (c_factors_of : Cb P w K mg base "factors_of" 1 ["powers"] (spD K PfacD)) (c_made_wish : Cb P w K mg base "made_wish" 11 ["pairs"] (spD K PmadeD)) : Cb P w K mg base "mean_over" 12 ["form", "lot"] (spD K PmoD) := by
  refine mk_cb W 8 (i := 19) rfl sc_mean_over (fun _ _ _ _ _ _ us hl => match us, hl with | [_, _], _ => rfl) (fun vs H Q E h => ?_) fun f cdv A outer s H vs Q E hr h => ⟨_, PSs.nox (
    (pss_cons (ps_set (i := 2) sc_mean_over.nd rfl (by first | exact Or.inl rfl | exact Or.inr rfl) (pe_dcX (P := P) (w := w) (K := K) rfl rfl rfl (enc := encP)))
  (pss_cons (ps_for PassesOwn.never rfl (pi_tupX (K := K) rfl (pe_cb c_tuple_of (hr.mono (by omega)) rfl (pa_cons (pv 0) pa_nil))) (pg_tupX (n := 2) (K := K) rfl rfl (pgs_cons (pg_name (i := 3) sc_mean_over.nd rfl (by first | exact Or.inl rfl | exact Or.inr rfl)) (pgs_cons (pg_name (i := 4) sc_mean_over.nd rfl (by first | exact Or.inl rfl | exact Or.inr rfl)) pgs_nil))) (pss_cons (ps_set (i := 5) sc_mean_over.nd rfl (by first | exact Or.inl rfl | exact Or.inr rfl) (pe_callTy (cr_tupX (K := K) rfl) (by rfl) (W.free "tuple") (by decide +kernel) (pa_cons (pe_lc (own := [("place", 6), ("own", 7)]) rfl sc_mean_over.nd (pi_enumX (K := K) rfl rfl (W.free "enumerate") (pa_cons (pv 3) pa_nil)) (blkOk_by (N := ["form", "lot", "sums", "powers", "x", "left", "place", "own", "drawn", "found", "pair"]) (sc := defScope (topS 19)) (by decide +kernel)) (fun _ _ _ _ _ => (pg_tupX (n := 2) (K := K) rfl rfl (pgs_cons (pg_name (i := 6) sc_mean_over.nd rfl (by first | exact Or.inl rfl | exact Or.inr rfl)) (pgs_cons (pg_name (i := 7) sc_mean_over.nd rfl (by first | exact Or.inl rfl | exact Or.inr rfl)) pgs_nil)))) (fun _ _ _ _ _ => pts_nil) (fun _ _ _ _ _ => (pe_ifExp (pt_cmpR (op_inX (K := K) rfl) (pv 6) (pv 1) (by rfl)) (pe_op (op_mulX (K := K) rfl) (pe_tup (pa_cons pe_int pa_nil)) (pe_callB (cr_lenX (K := K) rfl) (by rfl) (W.free "len") (by decide +kernel) (pa_cons (pv 7) pa_nil))) (pv 7)))) pa_nil)))
  (pss_cons (ps_set (i := 8) sc_mean_over.nd rfl (by first | exact Or.inl rfl | exact Or.inr rfl) (pe_cb c_factors_of (hr.mono (by omega)) rfl (pa_cons (pe_lc (own := [("place", 6), ("own", 7)]) rfl sc_mean_over.nd (pi_enumX (K := K) rfl rfl (W.free "enumerate") (pa_cons (pv 3) pa_nil)) (blkOk_by (N := ["form", "lot", "sums", "powers", "x", "left", "place", "own", "drawn", "found", "pair"]) (sc := defScope (topS 19)) (by decide +kernel)) (fun _ _ _ _ _ => (pg_tupX (n := 2) (K := K) rfl rfl (pgs_cons (pg_name (i := 6) sc_mean_over.nd rfl (by first | exact Or.inl rfl | exact Or.inr rfl)) (pgs_cons (pg_name (i := 7) sc_mean_over.nd rfl (by first | exact Or.inl rfl | exact Or.inr rfl)) pgs_nil)))) (fun _ _ _ _ _ => (pts_one (pt_cmpR (op_inX (K := K) rfl) (pv 6) (pv 1) (by rfl)))) (fun _ _ _ _ _ => (pv 7))) pa_nil)))
  (pss_one (ps_expr (pe_bmX (K := K) rfl PySem.F.plainAttrs_list PySem.F.slot_list_append PySem.F.type_list_append mt_append (pe_dmX (P := P) (w := w) (K := K) rfl rfl rfl kP PySem.F.slot_dict_setdefault PySem.F.type_dict_setdefault (mt_setdCX (P := P) (w := w) (K := K) rfl rfl rfl kP hr.units) (pv 2) (pa_cons (pv 5) (pa_cons (pe_lst pa_nil) pa_nil))) (pa_cons (pe_tup (pa_cons (pv 8) (pa_cons (pv 4) pa_nil))) pa_nil)))))))
  (pss_cons (ps_setLc (i := 9) (own := [("left", 5)]) rfl sc_mean_over.nd rfl rfl (sw_true rfl rfl rfl (by decide +kernel)) (pi_listX (K := K) rfl (pe_callB (cr_sortCX (P := P) (w := w) (K := K) rfl rfl rfl kP rfl hr.units) (by rfl) (W.free "sorted") (by decide +kernel) (pa_cons (pv 2) pa_nil))) (blkOk_by (N := ["form", "lot", "sums", "powers", "x", "left", "place", "own", "drawn", "found", "pair"]) (sc := defScope (topS 19)) (by decide +kernel)) (fun _ _ _ _ _ => (pg_name (i := 5) sc_mean_over.nd rfl (by first | exact Or.inl rfl | exact Or.inr rfl))) (fun _ _ _ _ _ => pts_nil) (fun _ _ _ _ _ => (pe_tup (pa_cons (pv 5) (pa_cons (pe_cb c_made_wish (hr.mono (by omega)) rfl (pa_cons (pe_callTy (cr_tupX (K := K) rfl) (by rfl) (W.free "tuple") (by decide +kernel) (pa_cons (pe_ix (ix_dcX (P := P) (w := w) (K := K) rfl rfl rfl kP hr.units) (pv 2) (pv 5) (fun _ _ => rfl)) pa_nil)) pa_nil)) pa_nil)))))
  (pss_one (ps_ret (pe_callTy (cr_tupX (K := K) rfl) (by rfl) (W.free "tuple") (by decide +kernel) (pa_cons (pe_lc (own := [("pair", 10)]) rfl sc_mean_over.nd (pi_seqX (K := K) rfl (pv 9)) (blkOk_by (N := ["form", "lot", "sums", "powers", "x", "left", "place", "own", "drawn", "found", "pair"]) (sc := defScope (topS 19)) (by decide +kernel)) (fun _ _ _ _ _ => (pg_name (i := 10) sc_mean_over.nd rfl (by first | exact Or.inl rfl | exact Or.inr rfl))) (fun _ _ _ _ _ => (pts_one (pt_cmpR (op_neX (K := K) rfl hr.units) (pe_ix (ix_seqX (K := K) rfl) (pv 10) pe_int (fun _ _ => rfl)) (pe_tup pa_nil) (nomark _)))) (fun _ _ _ _ _ => (pv 10))) pa_nil)))))))), body_D (F := As.emp) (fun ds d p => ?_) h⟩
  · obtain ⟨ds, d, p, hd, _⟩ := h
    rw [hd.len]
    obtain ⟨b, f, lot, hb, hb1, hl, hb4, hs, hm, hlot, rfl, rfl⟩ := p
    rfl
  · obtain ⟨b, f, lot, hb, hb1, hl, hb4, hs, hm, hlot, rfl, rfl⟩ := p
    refine vs_group (E := kP) (encv := encF1) (f := encF1) (xs := f) (ck := fun x : Pw × Rat => leftOf lot x.1) (cv := fun x : Pw × Rat => (facs (inLot lot x.1), x.2)) (tk := tVar 5) (tv := tTup (tCons (tVar 8) (tCons (tVar 4) tNil))) im_encF1 (Nat.lt_of_sub_eq_succ rfl) (by omega) (fun a => ?_) (fun a x hx => ?_) ?_
    · exact vi_tupB (vb_im ((vd_call (P := PtupD 10) (va_cons (vd_var rfl) va_nil) ⟨encF f, Nat.lt_of_le_of_lt (dp_F f) (by decide), lnk_F hs, rfl, rfl⟩).is (tupOf_im _ (im_encF f))) (im_encF f))
    · have sz := hs.2 x hx
      have hmx := hm x hx
      have zl : x.1.zipIdx.length ≤ 1000 := by rw [List.length_zipIdx]; exact sz.1
      have s1 : VS K [] As.emp (tAsg (tCB (rTupG K) (tCons (tLc (iEnumG K (tCons (tVar 3) tNil)) (gTup K 2 (gCons (gName 6) (gCons (gName 7) gNil))) tYes (tIf (tTest (tOp (rIn K false) (tVar 6) (tVar 1))) (tOp (rMulG K) (tTup (tCons (tC (.int 0)) tNil)) (tCB (rLenG K) (tCons (tVar 7) tNil))) (tVar 7)) [6, 7]) tNil)) (gName 5)) [.d (encF f), .d (encM lot), .v (.ref a), .d (encP x.1), .d (encQ x.2), .no, .no, .no, .no, .no, .no] (.nx (· = [.d (encF f), .d (encM lot), .v (.ref a), .d (encP x.1), .d (encQ x.2), .d (encP (leftOf lot x.1)), .no, .no, .no, .no, .no]) As.emp) := by
        refine vs_asg0 (d := encP (leftOf lot x.1)) (VD.is (vd_cb (va_cons (VN.dat (vn_lc (os := (leftOf lot x.1).map encM) ((vi_enum (k := false) (ds := x.1.map encM) (vb_var rfl)).is (enumD_map encM x.1)) (by unfold leftOf; rw [List.length_map, List.length_map]; omega) ?_)) va_nil) rg_tupL) rfl) gd_name
        unfold leftOf
        rw [List.map_map]
        refine lc_map fun q hq => ⟨_, _, gd_tup (gds_cons gd_name (gds_cons gd_name gds_nil)) rfl, by simp, vt_yes, vb_im (d := encM (if q.2 ∈ lot then List.replicate q.1.length 0 else q.1)) ?_ (im_encM _)⟩
        have hq1 : q.1 ∈ x.1 := by
          have := List.mem_zipIdx' hq
          rw [this.2]
          exact List.getElem_mem _
        have h0 := hmx q.1 hq1
        refine vd_if (c := decide (q.2 ∈ lot)) (vt_test (vd_op (vd_var rfl) (vd_var rfl) rd_inM)) (fun z => ?_) fun z => ?_
        · rw [if_pos (of_decide_eq_true z)]
          refine VD.is (vd_op (vd_tup (va_cons vd_int va_nil) (Nat.le_of_ble_eq_true rfl)) ((vd_cb (va_cons (vd_var (d := .tuple (q.1.map fun n => .int (n : Nat))) rfl) va_nil) rg_lenT).is (by rw [List.length_map])) (rd_repT (n := q.1.length) h0.1 (by omega) (by simp) (Nat.le_of_ble_eq_true rfl))) ?_
          unfold encM
          congr 1
          clear hq hq1 h0 z
          generalize q.1.length = n
          induction n with
          | zero => rfl
          | succ n ih => rw [List.replicate_succ, List.flatten_cons, ih, List.replicate_succ]; rfl
        · rw [if_neg (of_decide_eq_false z)]
          exact vd_var rfl
      have s2 : VS K [] As.emp (tAsg (tCall (spD K PfacD) [] E0 (tCons (tLc (iEnumG K (tCons (tVar 3) tNil)) (gTup K 2 (gCons (gName 6) (gCons (gName 7) gNil))) (tTest (tOp (rIn K false) (tVar 6) (tVar 1))) (tVar 7) [6, 7]) tNil)) (gName 8)) [.d (encF f), .d (encM lot), .v (.ref a), .d (encP x.1), .d (encQ x.2), .d (encP (leftOf lot x.1)), .no, .no, .no, .no, .no] (.nx (· = [.d (encF f), .d (encM lot), .v (.ref a), .d (encP x.1), .d (encQ x.2), .d (encP (leftOf lot x.1)), .no, .no, .d (encP (facs (inLot lot x.1))), .no, .no]) As.emp) := by
        have il : (inLot lot x.1).length ≤ 1000 := (inLot_sz sz).1
        refine vs_asg0 (d := encP (facs (inLot lot x.1))) (vd_call (P := PfacD) (ds := [.list ((inLot lot x.1).map encM)]) (va_cons (VN.dat (vn_lc ((vi_enum (k := false) (ds := x.1.map encM) (vb_var rfl)).is (enumD_map encM x.1)) (by rw [List.length_map]; omega) ?_)) va_nil) ⟨true, inLot lot x.1, il, rfl, rfl⟩) gd_name
        unfold inLot
        rw [List.map_map]
        exact lc_filter fun q hq => ⟨_, _, gd_tup (gds_cons gd_name (gds_cons gd_name gds_nil)) rfl, by simp, vt_test (vd_op (vd_var rfl) (vd_var rfl) rd_inM), fun _ => vb_var rfl⟩
      refine ⟨_, _, [.d (encF f), .d (encM lot), .v (.ref a), .d (encP x.1), .d (encQ x.2), .d (encP (leftOf lot x.1)), .no, .no, .d (encP (facs (inLot lot x.1))), .no, .no], gd_tup (gds_cons gd_name (gds_cons gd_name gds_nil)) rfl, rfl, vd_var rfl, vd_tup (va_cons (vd_var rfl) (va_cons (vd_var rfl) va_nil)) (Nat.le_of_ble_eq_true rfl), ?_, ?_, fun D σ H s k => ?_⟩
      · intro y hy
        have : y = .d (encF f) ∨ y = .d (encM lot) ∨ y = .v (.ref a) ∨ y = .d (encP x.1) ∨ y = .d (encQ x.2) ∨ y = .d (encP (leftOf lot x.1)) ∨ y = .no ∨ y = .d (encP (facs (inLot lot x.1))) := by
          simp only [List.mem_cons, List.not_mem_nil, or_false] at hy
          rcases hy with h | h | h | h | h | h | h | h | h | h | h <;> simp [h]
        rcases this with rfl | rfl | rfl | rfl | rfl | rfl | rfl | rfl
        · exact im_encF f
        · exact im_encM lot
        · trivial
        · exact im_encP _
        · exact im_encQ _
        · exact im_encP _
        · trivial
        · exact im_encP _
      · walk_at "le"
      · have z0 : Zs K [] As.emp _ σ H := ⟨fun a m => (by cases m), by rw [Bs_nil]; exact s, trivial⟩
        refine s1 _ σ H z0 fun env1 σ1 H1 e1 x1 z1 => ?_
        subst e1
        refine s2 _ σ1 H1 z1 fun env2 σ2 H2 e2 x2 z2 => ?_
        subst e2
        refine k σ2 H2 (fun c o h => ?_) z2.s
        exact (x1.trans x2).at (by simp) h
    · have gk := gmo_keys (lot := lot) (f := f)
      have kl : ((gmo lot f).map (·.1)).length ≤ 100 := by rw [List.length_map]; omega
      have kl2 : (srt encP ((gmo lot f).map (·.1))).length ≤ 100 := by rw [(srt_perm encP _).length_eq]; exact kl
      refine vs_seq1 (vs_asg0 (d := .list (((srt encP ((gmo lot f).map (·.1))).map fun k => (k, mwish ((lk (gmo lot f) k).getD []))).map encT1)) (VN.dat ?_) gd_name) ?_
      · rw [List.map_map]
        refine vn_lc (ds := (srt encP ((gmo lot f).map (·.1))).map encP) (vi_lstB (vb_new ((vn_sortCL (l := gmo lot f) rfl ?_).is ?_) (imA_map _ im_encP _))) (by rw [List.length_map]; omega) (lc_map fun k hk => ⟨_, _, gd_name, by simp, vt_yes, ?_⟩)
        · rw [show ((gmo lot f).map fun q => encP q.1) = ((gmo lot f).map (·.1)).map encP from by rw [List.map_map]; rfl]
          exact sok_P (by omega)
        · rw [show ((gmo lot f).map fun q => encP q.1) = ((gmo lot f).map (·.1)).map encP from by rw [List.map_map]; rfl, sortD_map]
        · have hk1 := lk_mem.mpr ((srt_perm encP _).mem_iff.mp hk)
          obtain ⟨v, hv⟩ := Option.isSome_iff_exists.mp hk1
          have hmem := lk_some_mem hv
          have vm := gmo_mem _ hmem
          have vl := gmo_len _ hmem
          simp only at vm vl
          have rm : Rm b v := ⟨fun y hy => by obtain ⟨z, hz, rfl⟩ := vm y hy; exact hb z hz, Nat.le_trans (Nat.mul_le_mul_left _ vl) hb1, by omega, hb4⟩
          have szv : SzF v := ⟨by omega, fun y hy => by obtain ⟨z, hz, rfl⟩ := vm y hy; exact facs_sz (inLot_sz (hs.2 z hz))⟩
          refine vb_im (d := encT1 (k, mwish ((lk (gmo lot f) k).getD []))) (vd_tup (va_cons (vd_var rfl) (va_cons ?_ va_nil)) (Nat.le_of_ble_eq_true rfl)) (im_encT1 _)
          rw [hv]
          exact vd_call (P := PmadeD) (va_cons (vd_cb (va_cons (vd_ixCL rfl (vd_var rfl) hv) va_nil) rg_tupL) va_nil) ⟨b, v, encF v, rm, szv, lnk_F szv, Nat.lt_of_le_of_lt (dp_F v) (by decide), tupOf_im _ (im_encF v), rfl, rfl⟩
      · refine vs_ret0 (VD.is (vd_cb (va_cons (VN.dat (vn_lc (vi_seqL (vb_var rfl)) ?_ (lc_filter (c := fun x => decide (x.2 ≠ [])) (h := encT1) fun x hx => ⟨_, _, gd_name, by simp, VT.is (vt_test (vd_op (vd_op (vd_var rfl) vd_int (rd_ix1 rfl)) (vd_tup va_nil (Nat.le_of_ble_eq_true rfl)) (rd_neD (sh_F x.2) rfl))) ?_, fun _ => vb_var rfl⟩))) va_nil) rg_tupL) rfl)
        · rw [List.length_map]
          refine Nat.le_trans (List.length_filter_le _ _) ?_
          rw [List.length_map]; omega
        · rw [eqv_nil]
          simp
end
end NB
end S_NbD7

section S_NbM7
set_option Elab.async false
set_option linter.all false
set_option maxRecDepth 100000
set_option maxHeartbeats 4000000
namespace NB
open PySem PySem.Spec PyProof.Rows L2 PySem.W

/-! ### all powers that fit, the law's own -/
def zip2 (r q : List Nat) : Pw := (r.zip q).map fun p => [p.1, p.2]
def one1 (r : List Nat) : Pw := r.map fun x => [x]
def allp (n : Nat) : List Nat → List Pw
  | [s] => (splits s n).map one1
  | [s, t] => (splits s n).flatMap fun r => (splits t n).map (zip2 r)
  | _ => []
def far1 (q : List Nat × List Nat) : List Nat := (q.1.zipIdx.filter fun z => decide (0 < z.1) && !decide (z.2 ∈ q.2)).map (·.2)
def farp (shows p : Pw) : List Nat := (p.zip shows).flatMap far1
def lfit (shows : Pw) (sums : List Nat) : List Pw := (allp shows.length sums).filter fun p => decide (farp shows p = [])
def PlftN (ds es : List PyData) : Prop := ∃ (shows : Pw) (sums : List Nat), 0 < sums.length ∧ shows.length ≤ 3 ∧ SumOk sums ∧ ds = [.list (shows.map encM), encM sums] ∧ es = (srt encP (lfit shows sums)).map encP
theorem allp_len {n : Nat} (hn : n ≤ 3) {sums : List Nat} (ok : SumOk sums) : (allp n sums).length ≤ 4096 := by
  match sums, ok with
  | [], _ => show 0 ≤ 4096; omega
  | [s], ok =>
    have := split64 (ok.2 s (by simp)) hn
    show (List.map _ _).length ≤ _
    rw [List.length_map]; omega
  | [s, t], ok =>
    have h1 := split64 (ok.2 s (by simp)) hn
    have h2 := split64 (ok.2 t (by simp)) hn
    show (List.flatMap _ _).length ≤ _
    refine Nat.le_trans (flat_len (n := 64) fun r _ => by rw [List.length_map]; exact h2) (Nat.le_trans (Nat.mul_le_mul_right 64 h1) (by decide))
  | _ :: _ :: _ :: _, _ => show 0 ≤ 4096; omega
theorem allp_sz {n : Nat} {sums : List Nat} : ∀ p ∈ allp n sums, p.length ≤ n ∧ ∀ m ∈ p, m.length = sums.length := by
  match sums with
  | [] => intro p hp; cases hp
  | [s] =>
    intro p hp
    obtain ⟨r, hr, rfl⟩ := List.mem_map.mp hp
    have := splits_mem _ _ r hr
    unfold one1
    refine ⟨by rw [List.length_map]; omega, fun m hm => ?_⟩
    obtain ⟨x, _, rfl⟩ := List.mem_map.mp hm
    rfl
  | [s, t] =>
    intro p hp
    obtain ⟨r, hr, hp⟩ := List.mem_flatMap.mp hp
    obtain ⟨q, hq, rfl⟩ := List.mem_map.mp hp
    have := splits_mem _ _ r hr
    unfold zip2
    refine ⟨by rw [List.length_map, List.length_zip]; omega, fun m hm => ?_⟩
    obtain ⟨x, _, rfl⟩ := List.mem_map.mp hm
    rfl
  | _ :: _ :: _ :: _ => intro p hp; cases hp
theorem far1_len (q : List Nat × List Nat) : (far1 q).length ≤ q.1.length := by
  unfold far1
  rw [List.length_map]
  refine Nat.le_trans (List.length_filter_le _ _) ?_
  rw [List.length_zipIdx]; exact Nat.le_refl _
theorem filter_take {α : Type} (c : α → Bool) (xs : List α) {i : Nat} {x : α} (h : xs[i]? = some x) : (xs.take (i + 1)).filter c = (xs.take i).filter c ++ (if c x then [x] else []) := by
  rw [List.take_add_one, h, List.filter_append]
  show _ ++ [x].filter c = _
  congr 1
  by_cases e : c x <;> simp [e]
theorem eqv_nilL (ds : List PyData) : PyData.eqv (.list ds) (.list []) = decide (ds = []) := by
  cases ds with
  | nil => rfl
  | cons d ds => rfl
end NB
end S_NbM7

section S_NbD8
set_option Elab.async false
set_option linter.all false
set_option maxRecDepth 100000
set_option maxHeartbeats 4000000
set_option exponentiation.threshold 100000
namespace NB
open PySem PySem.Spec PyProof.Rows L2
local macro_rules | `(tactic| walk_at "vd") => `(tactic| repeat' (first
  | exact vd_var rfl | exact vd_int | exact vd_bl | exact va_nil | exact vba_nil | exact vt_yes
  | with_reducible apply va_cons | with_reducible apply vt_test | with_reducible apply vt_not | with_reducible apply vt_B
  | with_reducible apply vd_tup | with_reducible apply vd_cb | with_reducible apply vd_op | with_reducible apply vd_un
  | exact rd_add | exact rd_ix0 rfl | exact rd_ix1 rfl | exact rd_I0 | exact rd_B0 | exact ru_I
  | exact rg_lenT | exact rg_lenL | exact rc_abs | exact rc_gcd
  | exact Nat.le_of_ble_eq_true rfl))
local macro_rules | `(tactic| walk_at "le") => `(tactic| repeat (first | exact Le.nil | apply Le.same | apply Le.drop))
section
variable {P : Program} {w : World} {K : PySem.W.Frag} {mg : Str → Option Value} {base : Heap}
theorem sh_map {α : Type} {f : α → PyData} (h : ∀ x, (f x).canLay0 = true) {n : Nat} (hd : ∀ x, (f x).depth ≤ n) (hn : n ≤ 60) (xs : List α) : SeqAt.shaped (.list (xs.map f)) = true :=
  sh_of (by rw [PyData.canLay0]; exact cl_map h xs) (Nat.le_trans (dep_lst (n := n) (mem_map_all fun x _ => hd x)) (by omega))
theorem sh_N (xs : List Nat) : SeqAt.shaped (.list (xs.map fun n => .int (n : Nat))) = true := sh_map (f := fun n : Nat => .int (n : Nat)) (fun _ => by rw [PyData.canLay0]) (n := 10) (fun _ => by show PyData.depth (.int _) ≤ 10; simp [PyData.depth]) (by decide) xs

theorem sc_law_fitting : FnScope ["_law_shows_here", "_law_sums", "_law_found", "_law_rows", "_law_x", "_law_others", "_law_y", "_law_good", "_law_powers_here", "_law_far", "_law_own", "_law_seen", "_law_column", "_law_power"] ["_law_shows_here", "_law_sums"] (defScope (topS 47)) := ⟨rfl, rfl, rfl, by decide +kernel, rfl, by decide +kernel, by decide +kernel⟩
theorem cb_law_fitting (W : Wd K mg) (c__law_splits : Cb P w K mg base "_law_splits" 4 ["_law_total", "_law_many"] (spO K (PsplD 4))) : Cb P w K mg base "_law_fitting" 5 ["_law_shows_here", "_law_sums"] (spN K PlftN) := by
  refine mk_cb W 35 (i := 47) rfl sc_law_fitting (fun _ _ _ _ _ _ us hl => match us, hl with | [_, _], _ => rfl) (fun vs H Q E h => ?_) fun f cdv A outer s H vs Q E hr h => ⟨_, PSs.nox (
    (pss_cons (ps_set (i := 2) sc_law_fitting.nd rfl (by first | exact Or.inl rfl | exact Or.inr rfl) (pe_lst pa_nil))
  (pss_cons (ps_for PassesOwn.never rfl (pi_seqX (K := K) rfl (pe_cb c__law_splits (hr.mono (by omega)) rfl (pa_cons (pe_ix (ix_seqX (K := K) rfl) (pv 1) pe_int (fun _ _ => rfl)) (pa_cons (pe_callB (cr_lenX (K := K) rfl) (by rfl) (W.free "len") (by decide +kernel) (pa_cons (pv 0) pa_nil)) pa_nil)))) (pg_name (i := 3) sc_law_fitting.nd rfl (by first | exact Or.inl rfl | exact Or.inr rfl)) (pss_one (ps_if (pt_cmpR (op_eqX (K := K) rfl hr.units) (pe_callB (cr_lenX (K := K) rfl) (by rfl) (W.free "len") (by decide +kernel) (pa_cons (pv 1) pa_nil)) pe_int (nomark _)) (pss_one (ps_expr (pe_bmX (K := K) rfl PySem.F.plainAttrs_list PySem.F.slot_list_append PySem.F.type_list_append mt_append (pv 2) (pa_cons (pe_callTy (cr_tupX (K := K) rfl) (by rfl) (W.free "tuple") (by decide +kernel) (pa_cons (pe_lc (own := [("_law_x", 4)]) rfl sc_law_fitting.nd (pi_seqX (K := K) rfl (pv 3)) (blkOk_by (N := ["_law_shows_here", "_law_sums", "_law_found", "_law_rows", "_law_x", "_law_others", "_law_y", "_law_good", "_law_powers_here", "_law_far", "_law_own", "_law_seen", "_law_column", "_law_power"]) (sc := defScope (topS 47)) (by decide +kernel)) (fun _ _ _ _ _ => (pg_name (i := 4) sc_law_fitting.nd rfl (by first | exact Or.inl rfl | exact Or.inr rfl))) (fun _ _ _ _ _ => pts_nil) (fun _ _ _ _ _ => (pe_tup (pa_cons (pv 4) pa_nil)))) pa_nil)) pa_nil)))) (pss_one (ps_for PassesOwn.never rfl (pi_seqX (K := K) rfl (pe_cb c__law_splits (hr.mono (by omega)) rfl (pa_cons (pe_ix (ix_seqX (K := K) rfl) (pv 1) pe_int (fun _ _ => rfl)) (pa_cons (pe_callB (cr_lenX (K := K) rfl) (by rfl) (W.free "len") (by decide +kernel) (pa_cons (pv 0) pa_nil)) pa_nil)))) (pg_name (i := 5) sc_law_fitting.nd rfl (by first | exact Or.inl rfl | exact Or.inr rfl)) (pss_one (ps_expr (pe_bmX (K := K) rfl PySem.F.plainAttrs_list PySem.F.slot_list_append PySem.F.type_list_append mt_append (pv 2) (pa_cons (pe_callTy (cr_tupX (K := K) rfl) (by rfl) (W.free "tuple") (by decide +kernel) (pa_cons (pe_lc (own := [("_law_x", 4), ("_law_y", 6)]) rfl sc_law_fitting.nd (pi_zipX (K := K) rfl rfl (W.free "zip") (pa_cons (pv 3) (pa_cons (pv 5) pa_nil))) (blkOk_by (N := ["_law_shows_here", "_law_sums", "_law_found", "_law_rows", "_law_x", "_law_others", "_law_y", "_law_good", "_law_powers_here", "_law_far", "_law_own", "_law_seen", "_law_column", "_law_power"]) (sc := defScope (topS 47)) (by decide +kernel)) (fun _ _ _ _ _ => (pg_tupX (n := 2) (K := K) rfl rfl (pgs_cons (pg_name (i := 4) sc_law_fitting.nd rfl (by first | exact Or.inl rfl | exact Or.inr rfl)) (pgs_cons (pg_name (i := 6) sc_law_fitting.nd rfl (by first | exact Or.inl rfl | exact Or.inr rfl)) pgs_nil)))) (fun _ _ _ _ _ => pts_nil) (fun _ _ _ _ _ => (pe_tup (pa_cons (pv 4) (pa_cons (pv 6) pa_nil))))) pa_nil)) pa_nil)))))))))
  (pss_cons (ps_set (i := 7) sc_law_fitting.nd rfl (by first | exact Or.inl rfl | exact Or.inr rfl) (pe_lst pa_nil))
  (pss_cons (ps_for PassesOwn.never rfl (pi_seqX (K := K) rfl (pv 2)) (pg_name (i := 8) sc_law_fitting.nd rfl (by first | exact Or.inl rfl | exact Or.inr rfl)) (pss_cons (ps_set (i := 9) sc_law_fitting.nd rfl (by first | exact Or.inl rfl | exact Or.inr rfl) (pe_lst pa_nil))
  (pss_cons (ps_for PassesOwn.never rfl (pi_zipX (K := K) rfl rfl (W.free "zip") (pa_cons (pv 8) (pa_cons (pv 0) pa_nil))) (pg_tupX (n := 2) (K := K) rfl rfl (pgs_cons (pg_name (i := 10) sc_law_fitting.nd rfl (by first | exact Or.inl rfl | exact Or.inr rfl)) (pgs_cons (pg_name (i := 11) sc_law_fitting.nd rfl (by first | exact Or.inl rfl | exact Or.inr rfl)) pgs_nil))) (pss_one (ps_set (i := 9) sc_law_fitting.nd rfl (by first | exact Or.inl rfl | exact Or.inr rfl) (pe_op (op_addX (K := K) rfl) (pv 9) (pe_lc (own := [("_law_column", 12), ("_law_power", 13)]) rfl sc_law_fitting.nd (pi_enumX (K := K) rfl rfl (W.free "enumerate") (pa_cons (pv 10) pa_nil)) (blkOk_by (N := ["_law_shows_here", "_law_sums", "_law_found", "_law_rows", "_law_x", "_law_others", "_law_y", "_law_good", "_law_powers_here", "_law_far", "_law_own", "_law_seen", "_law_column", "_law_power"]) (sc := defScope (topS 47)) (by decide +kernel)) (fun _ _ _ _ _ => (pg_tupX (n := 2) (K := K) rfl rfl (pgs_cons (pg_name (i := 12) sc_law_fitting.nd rfl (by first | exact Or.inl rfl | exact Or.inr rfl)) (pgs_cons (pg_name (i := 13) sc_law_fitting.nd rfl (by first | exact Or.inl rfl | exact Or.inr rfl)) pgs_nil)))) (fun _ _ _ _ _ => (pts_one (PW.pt (pw_and (pt_cmpR op_gt (pv 13) pe_int (nomark _)) (pw_and1 (pt_cmpR (op_notInX (K := K) rfl) (pv 12) (pv 11) (by rfl))))))) (fun _ _ _ _ _ => (pv 12)))))))
  (pss_one (ps_set (i := 7) sc_law_fitting.nd rfl (by first | exact Or.inl rfl | exact Or.inr rfl) (pe_ifExp (pt_cmpR (op_eqX (K := K) rfl hr.units) (pv 9) (pe_lst pa_nil) (nomark _)) (pe_op (op_addX (K := K) rfl) (pv 7) (pe_lst (pa_cons (pv 8) pa_nil))) (pv 7)))))))
  (pss_one (ps_ret (pe_callB (cr_sortLX (K := K) rfl hr.units) (by rfl) (W.free "sorted") (by decide +kernel) (pa_cons (pv 7) pa_nil))))))))), body_N (F := As.emp) (fun ds d p => ?_) h⟩
  · obtain ⟨ds, d, p, hd, _⟩ := h
    rw [hd.len]
    obtain ⟨shows, sums, h1, h3, ok, rfl, rfl⟩ := p
    rfl
  · obtain ⟨shows, sums, h1, h3, ok, rfl, rfl⟩ := p
    have al := allp_len h3 ok
    have sp : ∀ s, s ∈ sums → ∀ env : List Sl, env[0]? = some (.d (.list (shows.map encM))) → ∀ te : TE, VB K te env (.int (s : Nat)) → ∀ O : List Addr, VIZ K O (iSeq K (tCall (spO K (PsplD 4)) [] E0 (tCons te (tCons (tCB (rLenG K) (tCons (tVar 0) tNil)) tNil)))) env ((splits s shows.length).map encM) := fun s hs env he te hte O =>
      viz_seqL (vz_callO (ds := [.int (s : Nat), .int (shows.length : Nat)]) (vba_cons hte (vba_cons (vb_im ((vd_cb (va_cons (vd_var he) va_nil) rg_lenL).is (by rw [List.length_map])) rfl) vba_nil)) ⟨s, shows.length, by omega, h3, by have := ok.2 s hs; omega, rfl, rfl⟩)
    refine vs_newLR (F2 := As.emp) (ds := []) (es := (allp shows.length sums).map encP) (env2 := [.d (.list (shows.map encM)), .d (encM sums), .no, .no, .no, .no, .no, .no, .no, .no, .no, .no, .no, .no]) rfl (imA_map _ im_encP _) (vn_lst va_nil (Nat.le_of_ble_eq_true rfl)) (fun a ha => ?_) (Nat.lt_of_sub_eq_succ rfl) ?_
    · match sums, ok, h1, sp, al with
      | [s], ok, _, sp, al =>
        refine (vs_forTZ (f := encM) (xs := splits s shows.length) (fun j => [.d (.list (shows.map encM)), .d (encM [s]), .v (.ref a), .no, .no, .no, .no, .no, .no, .no, .no, .no, .no, .no]) (fun j => As.emp.and (.lst K a ((((splits s shows.length).take j).map one1).map encP) (imA_map _ im_encP _))) (sp s (by simp) _ rfl _ (vb_im (vd_op (vd_var rfl) vd_int (rd_ix0 rfl)) rfl) _) (Le.refl _) (fun H h => h) fun j r hj => ?_).le (.nx (fun e he => ⟨e, he, Le.refl _⟩) fun H h => by rw [List.take_length] at h; exact h)
        have hr := splits_mem _ _ r (List.mem_of_getElem? hj)
        have e3 : (((splits s shows.length).take (j + 1)).map one1).map encP = (((splits s shows.length).take j).map one1).map encP ++ [encP (one1 r)] := by
          rw [List.take_add_one, hj, List.map_append, List.map_append]; rfl
        refine ⟨_, _, _, gd_name, vs_ifT ((vt_test (vd_op (vd_cb (va_cons (vd_var rfl) va_nil) rg_lenT) vd_int (rd_eqD (b := .int 1) rfl rfl))).is (b := true) rfl) ((vs_append (m' := by rw [← e3]; exact imA_map _ im_encP _) (d := encP (one1 r)) rfl List.mem_cons_self ?_ As.off_emp ?_).le (.nx (fun e he => ⟨e, he, Le.refl _⟩) fun H h => ?_)), ?_⟩
        · refine VD.is (vd_cb (va_cons (VN.dat (vn_lc (os := (one1 r).map encM) (vi_seqT (vb_var (d := .tuple (r.map fun n => .int (n : Nat))) rfl)) (by unfold one1; rw [List.length_map, List.length_map]; omega) ?_)) va_nil) rg_tupL) rfl
          unfold one1
          rw [List.map_map]
          exact lc_map fun x hx => ⟨_, _, gd_name, by simp, vt_yes, vb_im (d := encM [x]) (vd_tup (va_cons (vd_var rfl) va_nil) (Nat.le_of_ble_eq_true rfl)) (im_encM _)⟩
        · have h0 : ((splits s shows.length).map one1).length ≤ 4096 := al
          rw [List.length_map] at h0
          rw [List.length_map, List.length_map, List.length_take]; omega
        · refine ⟨trivial, ?_⟩
          obtain ⟨xs, h1, h2⟩ := h.2
          exact ⟨xs, h1, by rw [e3]; exact h2⟩
        · walk_at "le"
      | [s, t], ok, _, sp, al =>
        let G := fun r : List Nat => (splits t shows.length).map (zip2 r)
        refine (vs_forTZ (f := encM) (xs := splits s shows.length) (fun j => [.d (.list (shows.map encM)), .d (encM [s, t]), .v (.ref a), .no, .no, .no, .no, .no, .no, .no, .no, .no, .no, .no]) (fun j => As.emp.and (.lst K a ((((splits s shows.length).take j).flatMap G).map encP) (imA_map _ im_encP _))) (sp s (by simp) _ rfl _ (vb_im (vd_op (vd_var rfl) vd_int (rd_ix0 rfl)) rfl) _) (Le.refl _) (fun H h => h) fun j r hj => ?_).le (.nx (fun e he => ⟨e, he, Le.refl _⟩) fun H h => by rw [List.take_length] at h; exact h)
        have hr := splits_mem _ _ r (List.mem_of_getElem? hj)
        have a1 := split64 (ok.2 s (by simp)) h3
        have a2 := split64 (ok.2 t (by simp)) h3
        have a3 : ∀ j2, (((splits s shows.length).take j).flatMap G ++ (G r).take j2).length ≤ 5000 := fun j2 => by
          have b1 := flat_len (g := G) (n := 64) (xs := (splits s shows.length).take j) fun x _ => by show (List.map _ _).length ≤ 64; rw [List.length_map]; exact a2
          have b2 : ((splits s shows.length).take j).length ≤ 64 := by rw [List.length_take]; omega
          have b3 : (G r).length ≤ 64 := by show (List.map _ _).length ≤ 64; rw [List.length_map]; exact a2
          have b4 := Nat.mul_le_mul_right 64 b2
          rw [List.length_append, List.length_take]; omega
        refine ⟨_, _, _, gd_name, vs_ifF ((vt_test (vd_op (vd_cb (va_cons (vd_var rfl) va_nil) rg_lenT) vd_int (rd_eqD (b := .int 1) rfl rfl))).is (b := false) rfl) ((vs_forTZ (f := encM) (xs := splits t shows.length) (fun j2 => [.d (.list (shows.map encM)), .d (encM [s, t]), .v (.ref a), .d (encM r), .no, .no, .no, .no, .no, .no, .no, .no, .no, .no]) (fun j2 => As.emp.and (.lst K a ((((splits s shows.length).take j).flatMap G ++ (G r).take j2).map encP) (imA_map _ im_encP _))) (sp t (by simp) _ rfl _ (vb_im (vd_op (vd_var rfl) vd_int (rd_ix1 rfl)) rfl) _) (Le.refl _) (fun H h => ?_) fun j2 q hj2 => ?_).le (.nx (fun e he => ⟨e, he, Le.refl _⟩) fun H h => ?_)), ?_⟩
        · refine ⟨trivial, ?_⟩
          obtain ⟨xs, g1, g2⟩ := h.2
          exact ⟨xs, g1, by simpa using g2⟩
        · have hq := splits_mem _ _ q (List.mem_of_getElem? hj2)
          have e2 : (G r).take (j2 + 1) = (G r).take j2 ++ [zip2 r q] := by
            rw [List.take_add_one]
            congr 1
            show (List.map _ _)[j2]?.toList = _
            rw [List.getElem?_map, hj2]; rfl
          have e3 : (((splits s shows.length).take j).flatMap G ++ (G r).take (j2 + 1)).map encP = (((splits s shows.length).take j).flatMap G ++ (G r).take j2).map encP ++ [encP (zip2 r q)] := by
            rw [e2, ← List.append_assoc, List.map_append]; rfl
          refine ⟨_, _, _, gd_name, (vs_append (m' := by rw [← e3]; exact imA_map _ im_encP _) (d := encP (zip2 r q)) rfl List.mem_cons_self ?_ As.off_emp ?_).le (.nx (fun e he => ⟨e, he, Le.refl _⟩) fun H h => ?_), ?_⟩
          · refine VD.is (vd_cb (va_cons (VN.dat (vn_lc (os := (zip2 r q).map encM) ((vi_zip (k := false) (l := false) (ds := r.map fun n => .int (n : Nat)) (es := q.map fun n => .int (n : Nat)) (vb_var rfl) (vb_var rfl)).is (zipD_map _ _ r q)) (by unfold zip2; rw [List.length_map, List.length_map, List.length_zip]; omega) ?_)) va_nil) rg_tupL) rfl
            unfold zip2
            rw [List.map_map]
            exact lc_map fun x hx => ⟨_, _, gd_tup (gds_cons gd_name (gds_cons gd_name gds_nil)) rfl, by simp, vt_yes, vb_im (d := encM [x.1, x.2]) (vd_tup (va_cons (vd_var rfl) (va_cons (vd_var rfl) va_nil)) (Nat.le_of_ble_eq_true rfl)) (im_encM _)⟩
          · have := a3 j2
            rw [List.length_map]; omega
          · refine ⟨trivial, ?_⟩
            obtain ⟨xs, g1, g2⟩ := h.2
            exact ⟨xs, g1, by rw [e3]; exact g2⟩
          · walk_at "le"
        · refine ⟨trivial, ?_⟩
          obtain ⟨xs, g1, g2⟩ := h.2
          refine ⟨xs, g1, ?_⟩
          rw [flat_take G _ hj]
          have : (G r).take (splits t shows.length).length = G r := by
            rw [List.take_of_length_le]; show (List.map _ _).length ≤ _; rw [List.length_map]; exact Nat.le_refl _
          rw [this] at g2
          exact g2
        · walk_at "le"
      | _ :: _ :: _ :: _, ok, _, _, _ => exact absurd ok.1 (by simp)
    · let c := fun p : Pw => decide (farp shows p = [])
      refine vs_seq1 (vs_asg0 (d := .list ((((allp shows.length sums).take 0).filter c).map encP)) (VN.dat (vn_lst va_nil (Nat.le_of_ble_eq_true rfl))) gd_name) ?_
      refine vs_seq1 (vs_forC (f := encP) (xs := allp shows.length sums) (fun i => [.d (.list (shows.map encM)), .d (encM sums), .d (.list ((allp shows.length sums).map encP)), .no, .no, .no, .no, .d (.list ((((allp shows.length sums).take i).filter c).map encP)), .no, .no, .no, .no, .no, .no]) (vi_seqL (vb_var rfl)) (Le.refl _) fun i p hp => ?_) ?_
      · have psz := allp_sz p (List.mem_of_getElem? hp)
        have pmem : ∀ q ∈ p.zip shows, q.1.length ≤ 2 := fun q hq => by
          rw [psz.2 q.1 (List.of_mem_zip hq).1]; exact ok.1
        have fl : ∀ j, (((p.zip shows).take j).flatMap far1).length ≤ 6 := fun j => by
          have h1 := flat_len (g := far1) (n := 2) (xs := (p.zip shows).take j) fun q hq => Nat.le_trans (far1_len q) (pmem q (mem_take hq))
          have h2 : ((p.zip shows).take j).length ≤ 3 := by rw [List.length_take, List.length_zip]; omega
          omega
        refine ⟨_, _, _, gd_name, vs_seq1 (vs_asg0 (d := .list ((((p.zip shows).take 0).flatMap far1).map fun n => .int (n : Nat))) (VN.dat (vn_lst va_nil (Nat.le_of_ble_eq_true rfl))) gd_name) (vs_seq1 (vs_forC (f := fun q : List Nat × List Nat => .tuple [encM q.1, encM q.2]) (xs := p.zip shows) (fun j => [.d (.list (shows.map encM)), .d (encM sums), .d (.list ((allp shows.length sums).map encP)), .no, .no, .no, .no, .d (.list ((((allp shows.length sums).take i).filter c).map encP)), .d (encP p), .d (.list ((((p.zip shows).take j).flatMap far1).map fun n => .int (n : Nat))), .no, .no, .no, .no]) ((vi_zip (k := false) (l := true) (ds := p.map encM) (es := shows.map encM) (vb_var rfl) (vb_var rfl)).is (zipD_map _ _ p shows)) (Le.refl _) fun j q hq => ?_) (vs_asg0 (d := .list ((((allp shows.length sums).take (i + 1)).filter c).map encP)) ?_ gd_name)), ?_⟩
        · have q2 := pmem q (List.mem_of_getElem? hq)
          have f1 := far1_len q
          have f2 := fl j
          refine ⟨_, _, _, gd_tup (gds_cons gd_name (gds_cons gd_name gds_nil)) rfl, vs_asg0 (d := .list ((((p.zip shows).take (j + 1)).flatMap far1).map fun n => .int (n : Nat))) (VN.dat ((vn_cat (vd_var rfl) (VN.dat (vn_lc (os := (far1 q).map fun n => .int (n : Nat)) ((vi_enum (k := false) (ds := q.1.map fun n => .int (n : Nat)) (vb_var rfl)).is (enumD_map (fun n : Nat => PyData.int (n : Nat)) q.1)) (by rw [List.length_map]; omega) ?_)) (by rw [List.length_map, List.length_map]; omega)).is (by rw [flat_take _ _ hq, List.map_append]))) gd_name, ?_⟩
          · unfold far1
            rw [List.map_map]
            exact lc_filter fun z hz => ⟨_, _, gd_tup (gds_cons gd_name (gds_cons gd_name gds_nil)) rfl, by simp, VT.is (vt_and (vt_test (vd_op (vd_var rfl) vd_int rd_B0)) fun _ => vt_test (vd_op (vd_var rfl) (vd_var rfl) rd_notInM)) (by congr 1; exact decide_eq_decide.mpr (by omega)), fun _ => vb_var rfl⟩
          · walk_at "le"
        · refine vd_if (c := c p) ((vt_test (vd_op (vd_var rfl) (VN.dat (vn_lst va_nil (Nat.le_of_ble_eq_true rfl))) (rd_eqD (sh_N _) rfl))).is ?_) (fun z => ?_) fun z => ?_
          · rw [eqv_nilL]
            refine decide_eq_decide.mpr ?_
            rw [List.map_eq_nil_iff, List.take_length]
            exact Iff.rfl
          · rw [filter_take c _ hp, z, List.map_append]
            refine VN.dat (vn_cat (vd_var rfl) (VN.dat (vn_lst (va_cons (vd_var rfl) va_nil) (Nat.le_of_ble_eq_true rfl))) ?_)
            have h1 := List.length_filter_le c ((allp shows.length sums).take i)
            rw [List.length_take] at h1
            rw [List.length_map]
            show _ + 1 ≤ 100000
            omega
          · rw [filter_take c _ hp, z, List.map_append]
            have : ((((allp shows.length sums).take i).filter c).map encP ++ (if false = true then [p] else []).map encP) = (((allp shows.length sums).take i).filter c).map encP := by simp
            rw [this]
            exact vd_var rfl
        · walk_at "le"
      · refine vs_retN0 ((vn_cb (va_cons (vd_var (d := .list ((lfit shows sums).map encP)) ?_) va_nil) (rcn_sortL (sok_P ?_))).is (sortD_map encP _))
        · show some (Sl.d (.list ((((allp shows.length sums).take (allp shows.length sums).length).filter c).map encP))) = _
          rw [List.take_length]; rfl
        · refine Nat.le_trans (List.length_filter_le _ _) (by omega)
end
end NB
end S_NbD8

section S_NbE
set_option Elab.async false
set_option linter.all false
set_option maxRecDepth 100000
set_option maxHeartbeats 4000000
namespace NB
open PySem PySem.Spec PyProof.Rows L2 PySem.W
open Evl (Ex)

/-! ### the source of draws -/
/-- the source at U, drawn from at most m times -/
def As.urn (K : PySem.W.Frag) (U : Addr) (m : Nat) : As := ⟨fun H => ∃ a b c : Int, 0 ≤ c ∧ c ≤ (m : Nat) ∧ ∃ xs, H U = some (.lst xs) ∧ DtA K H xs [.int a, .int b, .int c],
  fun H H' e ⟨a, b, c, h0, h1, xs, h2, h3⟩ => ⟨a, b, c, h0, h1, xs, e _ _ h2, DtA.ex e _ _ h3⟩⟩
theorem As.urn_mono {K : PySem.W.Frag} {U : Addr} {m m' : Nat} (h : m ≤ m') {H : Hp} : (As.urn K U m).p H → (As.urn K U m').p H := fun ⟨a, b, c, h0, h1, r⟩ => ⟨a, b, c, h0, by omega, r⟩
theorem As.off_urn {K : PySem.W.Frag} {U a : Addr} {m : Nat} (h : U ≠ a) : (As.urn K U m).Off a := fun H H' k t ⟨x, b, c, h0, h1, xs, h2, h3⟩ => ⟨x, b, c, h0, h1, xs, (k U h).trans h2, DtA.tk t _ _ rfl h3⟩
def As.keepU (H : Hp) (O : List Addr) (U : Addr) : As := ⟨fun H' => ∀ a ∈ O, a ≠ U → ∀ o, H a = some o → H' a = some o, fun H1 H2 e h a m n o q => e a o (h a m n o q)⟩
theorem As.off_keepU {H : Hp} {O : List Addr} {U : Addr} : (As.keepU H O U).Off U := fun H1 H2 k t p b m n o q => by
  rw [k b n]; exact p b m n o q

theorem As.off_keepN {H : Hp} {O : List Addr} {U a : Addr} (h : a ∉ O) : (As.keepU H O U).Off a := fun H1 H2 k t p b m n o q => by
  rw [k b (fun e => h (e ▸ m))]; exact p b m n o q

/-! ### values that draw -/
def VE (K : PySem.W.Frag) (O : List Addr) (F : As) (te : TE) (env : List Sl) (P : PyData → Prop) (F' : As) : Prop := ∀ σ H, Zs K O F env σ H → ∀ Q : VK, (∀ v d H2, P d → XO O H H2 → Zs K O F' env σ H2 → Dt K (Bs H2 O) v d → Q v H2) → te σ H Q
def VEA (K : PySem.W.Frag) (O : List Addr) (F : As) (ta : TA) (env : List Sl) (P : List PyData → Prop) (F' : As) : Prop := ∀ σ H, Zs K O F env σ H → ∀ Q : List V → Hp → Prop, (∀ vs ds H2, P ds → XO O H H2 → Zs K O F' env σ H2 → DtA K (Bs H2 O) vs ds → Q vs H2) → ta σ H Q
def VET (K : PySem.W.Frag) (O : List Addr) (F : As) (tt : TT) (env : List Sl) (P : Bool → Prop) (F' : As) : Prop := ∀ σ H, Zs K O F env σ H → ∀ Q : Bool → Hp → Prop, (∀ b H2, P b → XO O H H2 → Zs K O F' env σ H2 → Q b H2) → tt σ H Q
def VEI (K : PySem.W.Frag) (O : List Addr) (F : As) (wi : TI) (env : List Sl) (P : List PyData → Prop) (F' : As) : Prop := ∀ σ H, Zs K O F env σ H → ∀ R : It → Hp → Prop, (∀ J ds H2, P ds → XO O H H2 → Zs K O F' env σ H2 → WkD K J ds (Bs H2 O) → R J H2) → wi σ H R
section
variable {K : PySem.W.Frag} {O : List Addr} {F F0 F1 F2 G : As} {env env' : List Sl} {t u : TS} {te ta tb : TE} {tA tR : TA} {tt : TT} {g : L2.TG} {wi : TI} {r' : Rs} {d : PyData} {ds es : List PyData} {is : List Nat} {r : R2} {P P' P1 P2 : PyData → Prop} {PA PB : List PyData → Prop}
theorem Zs.tkB {σ : L2.St} {H : Hp} (z : Zs K O F env σ H) : Tk H (Bs H O) := fun a o n q => by
  rw [Bs_out, q]
  intro m
  obtain ⟨u, h, mu⟩ := z.own a m
  rw [h] at q; cases q; exact n mu
theorem ve_z (h : VZ K O te env d) : VE K O F te env (· = d) F := fun σ H z Q q => h F σ H z Q fun v H2 e2 hv => q v d H2 rfl (XO.of e2) (z.ex e2) hv
theorem ve_b (h : VB K te env d) : VE K O F te env (· = d) F := ve_z h.z
theorem VE.le (h : VE K O F te env P F1) (hp : ∀ d, P d → P' d) (hf : ∀ H, F1.p H → F2.p H) : VE K O F te env P' F2 := fun σ H z Q q => h σ H z Q fun v d H2 p x z2 hv => q v d H2 (hp d p) x ⟨z2.own, z2.sg, hf _ z2.as⟩ hv
theorem VE.pre (h : VE K O F te env P F1) (hf : ∀ H, F0.p H → F.p H) : VE K O F0 te env P F1 := fun σ H z Q q => h σ H ⟨z.own, z.sg, hf _ z.as⟩ Q q
theorem ve_op (h1 : VE K O F ta env P1 F1) (h2 : VE K O F1 tb env P2 F2) (hr : ∀ a b, P1 a → P2 b → ∃ d, P d ∧ im d = true ∧ RDD K r a b d) : VE K O F (tOp r ta tb) env P F2 := fun σ H z Q q =>
  h1 σ H z _ fun x a H1 pa x1 z1 hx => h2 σ H1 z1 _ fun y b H2 pb x2 z2 hy => by
    obtain ⟨d, pd, m, rd⟩ := hr a b pa pb
    exact rd H2 x y (Dt.ex (Bs_sub _ _) _ _ (Dt.ex x2 _ _ hx)) (Dt.ex (Bs_sub _ _) _ _ hy) Q fun v H3 e3 hv => q v d H3 pd ((x1.trans x2).trans (XO.of e3)) (z2.ex e3) (Dt.tk (z2.ex e3).tkB _ _ m hv)
theorem vea_nil : VEA K O F tNil env (· = []) F := fun σ H z Q q => q [] [] H rfl (XO.refl _ _) z .nil
theorem vea_cons (h : VE K O F te env P F1) (hr : VEA K O F1 tR env PA F2) : VEA K O F (tCons te tR) env (fun ds => ∃ d es, ds = d :: es ∧ P d ∧ PA es) F2 := fun σ H z Q q =>
  h σ H z _ fun x a H1 pa x1 z1 hx => hr σ H1 z1 _ fun ys es H2 pb x2 z2 hy => q (x :: ys) (a :: es) H2 ⟨a, es, rfl, pa, pb⟩ (x1.trans x2) z2 (.cons (Dt.ex x2 _ _ hx) hy)
theorem VEA.le (h : VEA K O F tA env PA F1) (hp : ∀ ds, PA ds → PB ds) : VEA K O F tA env PB F1 := fun σ H z Q q => h σ H z Q fun v d H2 p x z2 hv => q v d H2 (hp d p) x z2 hv
theorem ve_tup (h : VEA K O F tA env PA F1) (hl : ∀ ds, PA ds → ds.length ≤ 100000) : VE K O F (tTup tA) env (fun d => ∃ ds, d = .tuple ds ∧ PA ds) F1 := fun σ H z Q q =>
  h σ H z _ fun xs ds H1 p x1 z1 hx => ⟨by rw [hx.len]; exact Nat.le_trans (hl ds p) (by decide), fun a ha => by
    have e := Ex.new (o := .tup xs) ha
    exact q _ (.tuple ds) _ ⟨ds, rfl, p⟩ (x1.trans (XO.of e)) (z1.ex e) (.tup (SqT.of (by rw [Bs_out (z1.fresh ha)]; exact upd_same)) (DtA.ex (Bs_mono e) _ _ hx))⟩
theorem ve_cb {rc : List V → Hp → VK → Prop} (h : VEA K O F tA env PA F1) (hr : ∀ ds, PA ds → ∃ d, P d ∧ im d = true ∧ RCD K rc ds d) : VE K O F (tCB rc tA) env P F1 := fun σ H z Q q =>
  h σ H z _ fun xs ds H1 p x1 z1 hx => by
    obtain ⟨d, pd, m, rd⟩ := hr ds p
    exact rd H1 xs (DtA.ex (Bs_sub _ _) _ _ hx) Q fun v H3 e3 hv => q v d H3 pd (x1.trans (XO.of e3)) (z1.ex e3) (Dt.tk (z1.ex e3).tkB _ _ m hv)
theorem vet_test {PT : Bool → Prop} (h : VE K O F te env P F1) (hb : ∀ d, P d → ∃ b, d = .bool b ∧ PT b) : VET K O F (tTest te) env PT F1 := fun σ H z Q q =>
  h σ H z _ fun v d H1 p x1 z1 hv => by
    obtain ⟨b, rfl, pb⟩ := hb d p
    exact ⟨b, dt_bool hv, q b H1 pb x1 z1⟩
theorem vet_B {PT : Bool → Prop} (h : VE K O F te env P F1) (hb : ∀ d, P d → ∃ b, d = .bool b ∧ PT b) : VET K O F (tB te) env PT F1 := fun σ H z Q q =>
  h σ H z _ fun v d H1 p x1 z1 hv => by
    obtain ⟨b, rfl, pb⟩ := hb d p
    exact ⟨b, dt_bool hv, q b H1 pb x1 z1⟩
theorem vet_not {PT : Bool → Prop} (h : VET K O F tt env (fun b => PT (!b)) F1) : VET K O F (tNot tt) env PT F1 := fun σ H z Q q => h σ H z _ fun b H2 p x z2 => q (!b) H2 p x z2
theorem vet_p {b : Bool} (h : VT K tt env b) : VET K O F tt env (· = b) F := fun σ H z Q q => h σ H z.s H (Ex.refl _) Q fun H2 e2 => q b H2 rfl (XO.of e2) (z.ex e2)
theorem ve_if {PT : Bool → Prop} (h : VET K O F tt env PT F1) (h1 : PT true → VE K O F1 ta env P F2) (h2 : PT false → VE K O F1 tb env P F2) : VE K O F (tIf tt ta tb) env P F2 := fun σ H z Q q =>
  h σ H z _ fun b H1 p x1 z1 => by
    cases b with
    | true => rw [if_pos rfl]; exact h1 p σ H1 z1 Q fun v d H2 p x z2 hv => q v d H2 p (x1.trans x) z2 hv
    | false => rw [if_neg Bool.false_ne_true]; exact h2 p σ H1 z1 Q fun v d H2 p x z2 hv => q v d H2 p (x1.trans x) z2 hv
theorem vei_p (h : VIZ K O wi env ds) : VEI K O F wi env (· = ds) F := fun σ H z R q => h F σ H z R fun J H2 e2 w => q J ds H2 rfl (XO.of e2) (z.ex e2) w
theorem vei_rng1 {PN : Nat → Prop} (h : VEA K O F tA env PA F1) (hb : ∀ ds, PA ds → ∃ n : Nat, ds = [.int (n : Nat)] ∧ n < 2 ^ 62 ∧ PN n) : VEI K O F (iRng1 tA) env (fun ds => ∃ n : Nat, PN n ∧ ds = (List.range n).map fun i => .int (i : Nat)) F1 := fun σ H z R q =>
  h σ H z _ fun xs ds H1 p x1 z1 hx => by
    obtain ⟨n, rfl, hn, pn⟩ := hb ds p
    cases hx with
    | cons a t =>
      cases t
      rw [dt_int a]
      refine ⟨(n : Nat), rfl, by omega, by omega, q _ ((List.range n).map fun i => .int (i : Nat)) H1 ⟨n, pn, rfl⟩ x1 z1 ?_⟩
      have := wk_rng (K := K) (lo := 0) (n := n) (B := Bs H1 O)
      simpa using this

/-! statements -/
theorem vs_asgE {I : List Sl → Prop} (h : VE K O F te env P F1) (hg : ∀ d, P d → ∃ env' is, GD K g env d env' is ∧ I env') : VS K O F (tAsg te g) env (.nx I F1) := fun D σ H z q =>
  h σ H z _ fun v d H2 p x2 z2 hv => by
    obtain ⟨env', is, gd, i'⟩ := hg d p
    exact gd _ σ v H2 z2.sg (Bs_sub _ _) hv _ fun σ' s' _ => q env' σ' H2 i' x2 ⟨z2.own, s', z2.as⟩
theorem vs_retE (h : VE K O F te env P F1) : VS K O F (tRet te) env (.rt P F1) := fun D σ H z q => h σ H z _ fun v d H2 p x2 z2 hv => q v d H2 p x2 z2.as hv
theorem vs_ifE {PT : Bool → Prop} (h : VET K O F tt env PT F1) (h1 : PT true → VS K O F1 t env r') (h2 : PT false → VS K O F1 u env r') : VS K O F (tIfS tt t u) env r' := fun D σ H z q =>
  h σ H z _ fun b H1 p x1 z1 => by
    cases b with
    | true => rw [if_pos rfl]; exact h1 p D σ H1 z1 (Rs.ok_mono x1 q)
    | false => rw [if_neg Bool.false_ne_true]; exact h2 p D σ H1 z1 (Rs.ok_mono x1 q)
theorem vs_parE {i j : Nat} {I : List Sl → Prop} (h : VEA K O F tA env PA F1) (hI : ∀ ds, PA ds → ∃ a b, ds = [a, b] ∧ I ((env.set i (.d a)).set j (.d b))) : VS K O F (tPar i j tA) env (.nx I F1) := fun D σ H z q =>
  h σ H z _ fun vs ds H2 p x2 z2 hv => by
    obtain ⟨a, b, rfl, i'⟩ := hI ds p
    cases hv with
    | cons h1 t =>
      cases t with
      | cons h2 t =>
        cases t
        exact ⟨_, _, rfl, q _ _ H2 i' x2 ⟨z2.own, (z2.sg.setD i h1).setD j h2, z2.as⟩⟩
theorem vs_forE {tb : TS} (n : Nat → Prop) (I : Nat → List Sl → Prop) (Fi : Nat → As) (hi : VEI K O F wi env PA F1) (h0 : ∃ e, I 0 e ∧ Le env e) (hF : ∀ H, F1.p H → (Fi 0).p H) (hn : ∀ ds, PA ds → n ds.length)
    (hs : ∀ i d e ds, PA ds → ds[i]? = some d → I i e → ∃ e2 is, GD K g e d e2 is ∧ VS K O (Fi i) tb e2 (.nx (I (i + 1)) (Fi (i + 1)))) (hq : ∀ k, n k → ∀ H, (Fi k).p H → F2.p H) : VS K O F (tFor wi g tb) env (.nx (fun e => ∃ k, n k ∧ I k e) F2) := fun D σ H z q =>
  hi σ H z _ fun J ds H2 p x2 z2 w => by
    refine for_it w (fun i σ' H' => XO O H2 H' ∧ ∃ e, I i e ∧ Zs K O (Fi i) e σ' H') ⟨XO.refl _ _, ?_⟩ (fun i σ' H' _ p => Ex.trans p.1 (Bs_sub _ _)) (fun i x σ' H1 H1' hi' p' y => ?_) (fun σ' H' p' => ?_)
    · obtain ⟨e, i0, l⟩ := h0
      exact ⟨e, i0, z2.own, z2.sg.le l, hF _ z2.as⟩
    · obtain ⟨p1, e, pe, pz⟩ := p'
      obtain ⟨y1, d, y2, y3⟩ := y
      obtain ⟨ee, is, g1, g2⟩ := hs i d e ds p y2 pe
      have pz' := pz.ex y1
      refine g1 _ σ' x H1' pz'.sg (Bs_sub _ _) (y3 _ (Ex.trans p1 (Bs_mono y1)) (pz.bok y1).new) _ fun σ2 s2 _ => ?_
      exact g2 _ σ2 H1' ⟨pz'.own, s2, pz'.as⟩ fun env' σ'' H'' i' x' z' => ⟨(p1.trans (XO.of y1)).trans x', env', i', z'⟩
    · obtain ⟨p1, e, pe, pz⟩ := p'
      exact q e σ' H' ⟨ds.length, hn ds p, pe⟩ (x2.trans p1) ⟨pz.own, pz.sg, hq _ (hn ds p) _ pz.as⟩
/-- the draws so far are opened -/
theorem vs_openU {U : Addr} {m : Nat} (h : ∀ a b c : Int, 0 ≤ c → c ≤ (m : Nat) → VS K O (G.and (.lst K U [.int a, .int b, .int c] rfl)) t env r') : VS K O (G.and (.urn K U m)) t env r' := fun D σ H z q => by
  obtain ⟨g, a, b, c, h0, h1, h2⟩ := z.as
  exact h a b c h0 h1 D σ H ⟨z.own, z.sg, g, h2⟩ q
theorem urn_close {U : Addr} {m : Nat} {a b c : Int} (h0 : 0 ≤ c) (h1 : c ≤ (m : Nat)) {H : Hp} : (G.and (.lst K U [.int a, .int b, .int c] rfl)).p H → (G.and (.urn K U m)).p H := fun ⟨g, h⟩ => ⟨g, a, b, c, h0, h1, h⟩
/-- an owned list is read -/
theorem Zs.viewL {σ : L2.St} {H : Hp} {U : Addr} {m : imA ds = true} {i : Nat} (z : Zs K O (G.and (.lst K U ds m)) env σ H) (hi : env[i]? = some (.v (.ref U))) : Sg K H σ (env.set i (.d (.list ds))) := by
  obtain ⟨_, xs, h1, h2⟩ := z.as
  exact z.s.at (x := .d (.list ds)) ⟨_, rfl, .lst h1 h2⟩ (z.sg.getV hi)
theorem ve_view {U : Addr} {m : imA ds = true} {i : Nat} (hi : env[i]? = some (.v (.ref U))) (h : VD K te (env.set i (.d (.list ds))) d) (md : im d = true) : VE K O (G.and (.lst K U ds m)) te env (· = d) (G.and (.lst K U ds m)) := fun σ H z Q q =>
  h σ H (z.viewL hi) H (Ex.refl _) Q fun v H2 e2 hv => q v d H2 rfl (XO.of e2) (z.ex e2) (Dt.tk (z.ex e2).tkB _ _ md hv)
theorem vet_view {U : Addr} {m : imA ds = true} {i : Nat} {b : Bool} (hi : env[i]? = some (.v (.ref U))) (h : VT K tt (env.set i (.d (.list ds))) b) : VET K O (G.and (.lst K U ds m)) tt env (· = b) (G.and (.lst K U ds m)) := fun σ H z Q q =>
  h σ H (z.viewL hi) H (Ex.refl _) Q fun H2 e2 => q b H2 rfl (XO.of e2) (z.ex e2)
/-- xs[j] = e, xs owned, e may read it -/
theorem vs_setLV {a : Addr} {i : Nat} {m : imA ds = true} {j : Nat} {ti : TE} {m' : imA (ds.set j d) = true} (hi : env[i]? = some (.v (.ref a))) (ha : a ∈ O) (h : VD K te (env.set i (.d (.list ds))) d) (md : im d = true) (hj : VD K ti (env.set i (.d (.list ds))) (.int (j : Nat))) (hlt : j < ds.length) (hg : G.Off a) :
    VS K O (G.and (.lst K a ds m)) (tAsg te (gSub (tVar i) ti rSetL)) env (.nx (· = env) (G.and (.lst K a (ds.set j d) m'))) := fun D σ H z q => by
  have s := z.viewL hi
  obtain ⟨g1, xs, h1, h2⟩ := z.as
  refine h σ H s H (Ex.refl _) _ fun v H2 e2 hv => ⟨_, z.sg.getV hi, hj σ H s H2 e2 _ fun w H3 e3 hw => ?_⟩
  have z3 := z.ex (e2.trans e3)
  have t3 : Tk H3 (upd H3 a (.lst (xs.set j v))) := z3.tkm ha
  have hx : xs.length = ds.length := h2.len
  rw [dt_int hw]
  refine ⟨a, xs, (j : Nat), j, rfl, rfl, e3 _ _ (e2 _ _ h1), ?_, q env σ _ rfl ((XO.of (e2.trans e3)).trans (XO.mut ha fun b nb => upd_ne nb)) (z3.mut ha trivial ⟨hg _ _ (fun b nb => upd_ne nb) t3 (As.ex_ (e2.trans e3) g1), _, upd_same, ?_⟩)⟩
  · unfold ixN
    rw [if_pos (by omega), if_pos (by omega)]; simp
  · exact DtA.set j (Dt.tk t3 _ _ md (Dt.ex e3 _ _ hv)) (DtA.tk t3 _ _ m (DtA.ex (e2.trans e3) _ _ h2))
end

/-! ### the draws' promises -/
def LIM : Nat := 1099511627776
def spU (K : PySem.W.Frag) (k : Nat) (P : List PyData → (PyData → Prop) → Prop) : Sp := fun vs H Q _ => ∃ (O : List Addr) (U : Addr) (m : Nat) (ws : List V) (ds : List PyData) (R : PyData → Prop), P ds R ∧ vs = .ref U :: ws ∧ U ∈ O ∧ m + k ≤ LIM ∧ (∀ a ∈ O, ∃ o, H a = some o ∧ MutT (some o)) ∧ (As.urn K U m).p H ∧ DtA K (Bs H O) ws ds ∧
  ∀ v d H', R d → (∀ a o, a ≠ U → H a = some o → H' a = some o) → (As.urn K U (m + k)).p H' → Dt K (Bs H' O) v d → Q v H'
def enterU (N : List Str) (U : Addr) (ds : List PyData) : List Sl := .v (.ref U) :: (ds.map .d ++ List.replicate (N.length - (ds.length + 1)) .no)
theorem Sg.startU {K : PySem.W.Frag} {B : Hp} {N : List Str} {U : Addr} {vs : List V} {ds : List PyData} (h : DtA K B vs ds) : Sg K B (L2.start N (.ref U :: vs)) (enterU N U ds) := by
  unfold L2.start enterU
  rw [List.length_cons, h.len]
  exact .cons rfl ((Sg.vals h).app (Sg.nones _))
theorem body_U {K : PySem.W.Frag} {k : Nat} {P : List PyData → (PyData → Prop) → Prop} {E : XK} {N : List Str} {t : TS} {vs : List V} {H : Hp} {Q : VK}
    (hb : ∀ (O : List Addr) (F : As) (U : Addr) (m : Nat) (ds : List PyData) (R : PyData → Prop), P ds R → U ∈ O → m + k ≤ LIM → F.Off U → (∀ a, a ∉ O → F.Off a) → VS K O (F.and (.urn K U m)) t (enterU N U ds) (.rt R (F.and (.urn K U (m + k))))) (h : spU K k P vs H Q E) : t { nx := fun _ H' => Q .non H', rt := Q } (L2.start N vs) H := by
  obtain ⟨O, U, m, ws, ds, R, p, rfl, hU, hm, ow, hu, hd, q⟩ := h
  refine hb O (As.keepU H O U) U m ds R p hU hm As.off_keepU (fun a ha => As.off_keepN ha) _ _ H ⟨ow, Sg.startU hd, fun a m n o q => q, hu⟩ fun v d' H' r x f hv => q v d' H' r (fun a o n h => ?_) f.2 hv
  by_cases ma : a ∈ O
  · exact f.1 a ma n o h
  · exact x.at ma h
def VU (K : PySem.W.Frag) (U : Addr) (m : Nat) (te : TE) (env : List Sl) (P : PyData → Prop) (m' : Nat) : Prop := ∀ (O : List Addr) (G : As), U ∈ O → G.Off U → VE K O (G.and (.urn K U m)) te env P (G.and (.urn K U m'))
def VUA (K : PySem.W.Frag) (U : Addr) (m : Nat) (ta : TA) (env : List Sl) (P : List PyData → Prop) (m' : Nat) : Prop := ∀ (O : List Addr) (G : As), U ∈ O → G.Off U → VEA K O (G.and (.urn K U m)) ta env P (G.and (.urn K U m'))
section
variable {K : PySem.W.Frag} {U : Addr} {m m1 m2 k : Nat} {O : List Addr} {F F1 F2 G : As} {env env' : List Sl} {te ta tb : TE} {tA tR : TA} {tt : TT} {g : L2.TG} {wi : TI} {d : PyData} {ds es : List PyData} {r : R2} {P P1 P2 P' : PyData → Prop} {PA PB : List PyData → Prop} {E : XK}
theorem vu_b (h : VB K te env d) : VU K U m te env (· = d) m := fun O G _ _ => ve_b h
theorem vua_nil : VUA K U m tNil env (· = []) m := fun O G _ _ => vea_nil
theorem vua_b (h : VBA K tA env ds) : VUA K U m tA env (· = ds) m := fun O G _ _ σ H z Q q => h σ _ z.sg H (Bs_sub _ _) Q fun vs H2 e2 hv => q vs ds H2 rfl (XO.of e2) (z.ex e2) (hv _ (z.bok e2))
theorem vua_cons (h : VU K U m te env P m1) (hr : VUA K U m1 tR env PA m2) : VUA K U m (tCons te tR) env (fun ds => ∃ d es, ds = d :: es ∧ P d ∧ PA es) m2 := fun O G a b => vea_cons (h O G a b) (hr O G a b)
theorem vu_op (h1 : VU K U m ta env P1 m1) (h2 : VU K U m1 tb env P2 m2) (hr : ∀ a b, P1 a → P2 b → ∃ d, P d ∧ im d = true ∧ RDD K r a b d) : VU K U m (tOp r ta tb) env P m2 := fun O G a b => ve_op (h1 O G a b) (h2 O G a b) hr
theorem vu_tup (h : VUA K U m tA env PA m1) (hl : ∀ ds, PA ds → ds.length ≤ 100000) : VU K U m (tTup tA) env (fun d => ∃ ds, d = .tuple ds ∧ PA ds) m1 := fun O G a b => ve_tup (h O G a b) hl
theorem vu_cb {rc : List V → Hp → VK → Prop} (h : VUA K U m tA env PA m1) (hr : ∀ ds, PA ds → ∃ d, P d ∧ im d = true ∧ RCD K rc ds d) : VU K U m (tCB rc tA) env P m1 := fun O G a b => ve_cb (h O G a b) hr
theorem VU.le (h : VU K U m te env P m1) (hp : ∀ d, P d → P' d) (hm : m1 ≤ m2) : VU K U m te env P' m2 := fun O G a b => (h O G a b).le hp fun H f => ⟨f.1, As.urn_mono hm f.2⟩
theorem vu_call {PS : List PyData → (PyData → Prop) → Prop} {i : Nat} (hi : env[i]? = some (.v (.ref U))) (h : VUA K U m tA env PA m1) (hp : ∀ ds, PA ds → ∃ R, PS ds R ∧ ∀ d, R d → P d) (hm : m1 + k ≤ LIM) : VU K U m (tCall (spU K k PS) [] E (tCons (tVar i) tA)) env P (m1 + k) := fun O G hU hG σ H z Q q => by
  refine ⟨_, z.sg.getV hi, h O G hU hG σ H z _ fun ws ds H1 pd x1 z1 hw => ?_⟩
  obtain ⟨R, ps, rp⟩ := hp ds pd
  refine ⟨O, U, m1, ws, ds, R, ps, by rw [List.append_nil], hU, hm, z1.own, z1.as.2, hw, fun v d H' rd kp hu hv => ?_⟩
  have x2 : XO O H1 H' := XO.by_ fun a o nm ha => kp a o (fun e => nm (e ▸ hU)) ha
  obtain ⟨o, ho, mo⟩ := z1.own U hU
  obtain ⟨_, _, _, _, _, xs, hx, _⟩ := id hu
  refine q v d H' (rp d rd) (x1.trans x2) ⟨fun a ma => ?_, z1.sg.ex x2, ?_, hu⟩ hv
  · by_cases e : a = U
    · subst e; exact ⟨_, hx, trivial⟩
    · obtain ⟨o', h', m'⟩ := z1.own a ma
      exact ⟨o', kp a o' e h', m'⟩
  · refine G.st _ _ (fun a o' h' => ?_) (hG H1 (upd H1 U (.lst xs)) (fun b nb => upd_ne nb) (Tk.mut ho mo) z1.as.1)
    by_cases e : a = U
    · subst e
      rw [upd_same] at h'
      rw [hx]; exact h'
    · rw [upd_ne e] at h'
      exact kp a o' e h'
/-- a comprehension that draws -/
theorem ve_lc {vs : List Nat} (M : Nat → Nat) (hU : U ∈ O) (hG : G.Off U) (hi : VEI K O (G.and (.urn K U m)) wi env PA (G.and (.urn K U (M 0)))) (hz : ∀ ds, PA ds → ds.length ≤ 1000 ∧ M ds.length ≤ m2) (hm : ∀ d, P d → im d = true)
    (h : ∀ i d ds, PA ds → ds[i]? = some d → ∃ env' is, GD K g (ew env vs) d env' is ∧ (∀ i ∈ is, i ∈ vs) ∧ VU K U (M i) te env' P (M (i + 1))) : VE K O (G.and (.urn K U m)) (tLc wi g tYes te vs) env (fun d => ∃ os dd, d = .list os ∧ PA dd ∧ os.length = dd.length ∧ ∀ x ∈ os, P x) (G.and (.urn K U m2)) := fun σ H z Q q =>
  hi σ H z _ fun J ds H2 p x2 z2 w D hD => by
    have nD := z2.fresh hD
    have fz : Ex H2 (er (upd H2 D (.lst [])) D) := er_in (Ex.new hD) hD
    refine lc_it w (fun i H' => (∀ a o, a ∉ O → H2 a = some o → H' a = some o) ∧ (∀ b ∈ O, ∃ o, H' b = some o ∧ MutT (some o)) ∧ ∃ acc os, H' D = some (.lst acc) ∧ os.length = i ∧ (∀ x ∈ os, P x) ∧ DtA K (Bs H' (D :: O)) acc os ∧ G.p (er H' D) ∧ (As.urn K U (M i)).p H')
      ⟨fun a o _ h => Ex.new hD a o h, (z2.ex (Ex.new hD)).own, [], [], upd_same, rfl, fun x hx => (by cases hx), .nil, G.st _ _ fz z2.as.1, As.ex_ (Ex.new hD) z2.as.2⟩ (fun i H' _ p => Ex.trans (XO.by_ p.1) (Bs_sub _ _)) (fun i x H1 H1' hi' p' y => ?_) (fun H' p' => ?_)
    · obtain ⟨p1, ow, acc, os, p2, p3, p4, p5, p6, p7⟩ := p'
      obtain ⟨y1, d, y2, y3⟩ := y
      obtain ⟨env', is, g1, g2, g3⟩ := h i d ds p y2
      have ow' : ∀ b ∈ D :: O, ∃ o, H1' b = some o ∧ MutT (some o) := fun b mb => by
        rcases List.mem_cons.mp mb with e | mb
        · subst e; exact ⟨_, y1 _ _ p2, trivial⟩
        · obtain ⟨o, ho, mo⟩ := ow b mb
          exact ⟨o, y1 _ _ ho, mo⟩
      have bx : Ex (Bs H2 O) (Bs H1' (D :: O)) := Bs_in (Ex.trans (XO.by_ p1) ((Bs_mono y1).trans (Bs_sub _ _))) fun b mb => by
        rcases List.mem_cons.mp mb with e | mb
        · subst e
          cases qq : Bs H2 O b with
          | none => rfl
          | some u => rw [Bs_sub H2 O b u qq] at hD; cases hD
        · exact Bs_none mb
      have s' : Sg K (Bs H1' (D :: O)) (L2.wipe σ vs) (ew env vs) := (z2.sg.ex bx).wipe vs
      have hx : Dt K (Bs H1' (D :: O)) x d := y3 _ bx fun a o h1 h2 => by
        rw [Bs_out, h2]
        intro mb
        rcases List.mem_cons.mp mb with e | mb
        · subst e; rw [p2] at h1; cases h1
        · obtain ⟨u, h3, _⟩ := ow a mb
          rw [h1] at h3; cases h3
      refine g1 _ _ x H1' s' (Bs_sub _ _) hx _ fun σ2 s2 w2 => ⟨?_, ?_⟩
      · rw [w2 vs g2]
        exact wipe_wipe σ vs
      · show te σ2 H1' _
        have nU : U ≠ D := fun e => nD (e ▸ hU)
        let GD' : As := ⟨fun H => G.p (er H D) ∧ H D = some (.lst acc), fun A B e q => ⟨G.st _ _ (er_mono e) q.1, e _ _ q.2⟩⟩
        have offG : GD'.Off U := fun A B kb tk q => ⟨hG (er A D) (er B D) (fun b nb => by
          unfold er
          by_cases e : b = D
          · rw [if_pos e, if_pos e]
          · rw [if_neg e, if_neg e]; exact kb b nb) (fun b o no hb => by
          have hb' := er_sub A D b o hb
          unfold er at hb ⊢
          by_cases e : b = D
          · rw [if_pos e] at hb; cases hb
          · rw [if_neg e]; exact tk b o no hb') q.1, (kb D (fun e => nU e.symm)).trans q.2⟩
        refine g3 (D :: O) GD' (List.mem_cons_of_mem _ hU) offG σ2 H1' ⟨ow', s2, ⟨G.st _ _ (er_mono y1) p6, y1 _ _ p2⟩, As.ex_ y1 p7⟩ _ fun v o H4 po x4 z4 hv => ?_
        have hl4 : H4 D = some (.lst acc) := z4.as.1.2
        have il : i < ds.length := (List.getElem?_eq_some_iff.mp y2).1
        have a5 : DtA K (Bs H4 (D :: O)) acc os := DtA.ex x4 _ _ (DtA.ex (Bs_mono y1) _ _ p5)
        have bu : Ex (Bs H4 (D :: O)) (Bs (upd H4 D (.lst (acc ++ [v]))) (D :: O)) := XO.mut List.mem_cons_self fun b nb => upd_ne nb
        have imo : ∀ x ∈ os ++ [o], P x := fun x hx => by
          rcases List.mem_append.mp hx with hx | hx
          · exact p4 x hx
          · rw [List.mem_singleton.mp hx]; exact po
        refine ⟨acc, hl4, ?_, fun a o' na ha => ?_, fun b mb => ?_, acc ++ [v], os ++ [o], upd_same, by rw [List.length_append, p3]; rfl, imo, (DtA.ex bu _ _ a5).app (.one (Dt.ex bu _ _ hv)), G.st _ _ er_upd' z4.as.1.1, ?_⟩
        · rw [a5.len, p3]
          have := (hz ds p).1
          exact Nat.lt_of_lt_of_le il (Nat.le_trans this (by decide))
        · have e : a ≠ D := fun e => by subst e; rw [hD] at ha; cases ha
          rw [upd_ne e]
          exact x4.at (fun mb => (List.mem_cons.mp mb).elim e na) (y1 _ _ (p1 a o' na ha))
        · have nb : b ≠ D := fun e => nD (e ▸ mb)
          rw [upd_ne nb]
          exact z4.own b (List.mem_cons_of_mem _ mb)
        · exact As.off_urn nU _ _ (fun b nb => upd_ne nb) (Tk.mut hl4 trivial) z4.as.2
    · obtain ⟨p1, ow, acc, os, p2, p3, p4, p5, p6, p7⟩ := p'
      have xo : XO O H2 H' := XO.by_ p1
      refine q _ (.list os) H' ⟨os, ds, rfl, p, p3, p4⟩ (x2.trans xo) ⟨ow, z2.sg.ex xo, G.st _ _ (er_sub _ _) p6, As.urn_mono (hz ds p).2 p7⟩ (.lst (by rw [Bs_out nD]; exact p2) (DtA.ex (Bs_cons _ _ _) _ _ p5))
end
end NB
end S_NbE

section S_NbD9
set_option Elab.async false
set_option linter.all false
set_option maxRecDepth 100000
set_option maxHeartbeats 4000000
set_option exponentiation.threshold 100000
namespace NB
open PySem PySem.Spec PyProof.Rows L2
local macro_rules | `(tactic| walk_at "vd") => `(tactic| repeat' (first
  | exact vd_var rfl | exact vd_int | exact vd_bl | exact va_nil | exact vba_nil | exact vt_yes
  | with_reducible apply va_cons | with_reducible apply vt_test | with_reducible apply vt_not | with_reducible apply vt_B
  | with_reducible apply vd_tup | with_reducible apply vd_cb | with_reducible apply vd_op | with_reducible apply vd_un
  | exact rd_add | exact rd_ix0 rfl | exact rd_ix1 rfl | exact rd_I0 | exact rd_B0 | exact ru_I
  | exact rg_lenT | exact rg_lenL | exact rc_abs | exact rc_gcd
  | exact Nat.le_of_ble_eq_true rfl))
local macro_rules | `(tactic| walk_at "le") => `(tactic| repeat (first | exact Le.nil | apply Le.same | apply Le.drop))
section
variable {P : Program} {w : World} {K : PySem.W.Frag} {mg : Str → Option Value} {base : Heap}

section
variable {K : PySem.W.Frag} {U : Addr} {m : Nat} {O : List Addr} {F G : As} {env : List Sl} {te : TE} {d : PyData} {ds : List PyData}
theorem vs_asgV {i j : Nat} {im_ : imA ds = true} (hi : env[i]? = some (.v (.ref U))) (h : VD K te (env.set i (.d (.list ds))) d) (md : im d = true) : VS K O (G.and (.lst K U ds im_)) (tAsg te (gName j)) env (.nx (· = env.set j (.d d)) (G.and (.lst K U ds im_))) :=
  vs_asgE (ve_view hi h md) fun d' hd => ⟨_, _, gd_name, by rw [hd]⟩
theorem rd_ixL2 (h : ds[2]? = some d) : RDD K (rIx K) (.list ds) (.int 2) d := rd_ixL (n := 2) h
theorem rd_ixK {k : Bool} {n : Nat} (h : ds[n]? = some d) : RDD K (rIx K) (dk k ds) (.int (n : Nat)) d := by
  cases k with
  | true => exact rd_ixL h
  | false => exact rd_ix h
theorem mod_nat (a : Int) {n : Nat} (h : 0 < n) : ∃ k : Nat, k < n ∧ PyData.int (a % (n : Nat)) = .int (k : Nat) := by
  have h1 := Int.emod_nonneg a (show ((n : Nat) : Int) ≠ 0 by omega)
  have h2 := Int.emod_lt_of_pos a (show (0 : Int) < (n : Nat) by omega)
  exact ⟨(a % (n : Nat)).toNat, by omega, by congr 1; omega⟩
end
def PtakU (ds : List PyData) (R : PyData → Prop) : Prop := ∃ low : Nat, 0 < low ∧ low ≤ 5000 ∧ ds = [.int (low : Nat)] ∧ R = fun d => ∃ n : Nat, n < low ∧ d = .int (n : Nat)
def PofU (ds : List PyData) (R : PyData → Prop) : Prop := ∃ (k : Bool) (es : List PyData), 0 < es.length ∧ es.length ≤ 5000 ∧ imA es = true ∧ ds = [dk k es] ∧ R = fun d => d ∈ es
def rq (n : Int) (d : Nat) (h1 : d ≠ 0 := by decide) (h2 : n.natAbs.Coprime d := by decide) : Rat := ⟨n, d, h1, h2⟩
def ratios : List Rat := [rq 1 1, rq 1 1, rq (-1) 1, rq 1 2, rq 2 1, rq (-1) 2, rq 1 3, rq (-2) 3, rq 3 2]
def PratU (ds : List PyData) (R : PyData → Prop) : Prop := ds = [] ∧ R = fun d => ∃ q, q ∈ ratios ∧ d = encQ q

theorem sc_law_take : FnScope ["_law_urn", "_law_low_here", "_law_drawn_here", "_law_once", "_law_far", "_law_twice"] ["_law_urn", "_law_low_here"] (defScope (topS 26)) := ⟨rfl, rfl, rfl, by decide +kernel, rfl, by decide +kernel, by decide +kernel⟩
theorem cb_law_take (W : Wd K mg) : Cb P w K mg base "_law_take" 1 ["_law_urn", "_law_low_here"] (spU K 1 PtakU) := by
  refine mk_cb W 14 (i := 26) rfl sc_law_take (fun _ _ _ _ _ _ us hl => match us, hl with | [_, _], _ => rfl) (fun vs H Q E h => ?_) fun f cdv A outer s H vs Q E hr h => ⟨_, PSs.nox (
    (pss_cons (ps_if (pt_cmpR op_gt (pe_ix (ix_seqX (K := K) rfl) (pv 0) pe_int (fun _ _ => rfl)) pe_int (nomark _)) (pss_cons (ps_set (i := 2) sc_law_take.nd rfl (by first | exact Or.inl rfl | exact Or.inr rfl) (pe_op op_mod (pe_callTy call_int1 (by rfl) (W.free "int") (by decide +kernel) (pa_cons (pe_ix (ix_seqX (K := K) rfl) (pv 0) pe_int (fun _ _ => rfl)) pa_nil)) (pv 1)))
  (pss_cons (ps_asg (pe_op op_fdivW (pe_ix (ix_seqX (K := K) rfl) (pv 0) pe_int (fun _ _ => rfl)) (pv 1)) (pg_sub (pv 0) pe_int set_list))
  (pss_one (ps_ret (pv 2))))) pss_nil)
  (pss_cons (ps_asg (pe_op (op_addX (K := K) rfl) (pe_ix (ix_seqX (K := K) rfl) (pv 0) pe_int (fun _ _ => rfl)) pe_int) (pg_sub (pv 0) pe_int set_list))
  (pss_cons (ps_set (i := 3) sc_law_take.nd rfl (by first | exact Or.inl rfl | exact Or.inr rfl) (pe_op op_mod (pe_callTy call_int1 (by rfl) (W.free "int") (by decide +kernel) (pa_cons (pe_op (op_mulX (K := K) rfl) (pe_op (op_addX (K := K) rfl) (pe_ix (ix_seqX (K := K) rfl) (pv 0) pe_int (fun _ _ => rfl)) (pe_op (op_mulX (K := K) rfl) pe_int (pe_ix (ix_seqX (K := K) rfl) (pv 0) pe_int (fun _ _ => rfl)))) (pe_op (op_addX (K := K) rfl) pe_int (pe_ix (ix_seqX (K := K) rfl) (pv 0) pe_int (fun _ _ => rfl)))) pa_nil)) pe_int))
  (pss_cons (ps_set (i := 4) sc_law_take.nd rfl (by first | exact Or.inl rfl | exact Or.inr rfl) (pe_op (op_addX (K := K) rfl) (pe_op op_mod (pe_callTy call_int1 (by rfl) (W.free "int") (by decide +kernel) (pa_cons (pv 3) pa_nil)) pe_int) pe_int))
  (pss_cons (ps_set (i := 5) sc_law_take.nd rfl (by first | exact Or.inl rfl | exact Or.inr rfl) (pe_op op_mod (pe_callTy call_int1 (by rfl) (W.free "int") (by decide +kernel) (pa_cons (pe_op (op_mulX (K := K) rfl) (pe_op (op_addX (K := K) rfl) (pe_op (op_addX (K := K) rfl) (pv 3) (pe_ix (ix_seqX (K := K) rfl) (pv 0) pe_int (fun _ _ => rfl))) (pe_op op_fdivW (pe_ix (ix_seqX (K := K) rfl) (pv 0) pe_int (fun _ _ => rfl)) pe_int)) (pv 4)) pa_nil)) pe_int))
  (pss_one (ps_ret (pe_op op_mod (pe_callTy call_int1 (by rfl) (W.free "int") (by decide +kernel) (pa_cons (pe_op op_fdivW (pe_op op_mod (pe_callTy call_int1 (by rfl) (W.free "int") (by decide +kernel) (pa_cons (pe_op (op_addX (K := K) rfl) (pe_op (op_mulX (K := K) rfl) (pv 5) pe_int) (pv 3)) pa_nil)) pe_int) pe_int) pa_nil)) (pv 1)))))))))), body_U (fun O F U m ds R p hU hm hF hN => ?_) h⟩
  · obtain ⟨O, U, m, ws, ds, R, p, rfl, _, _, _, _, hd, _⟩ := h
    rw [List.length_cons, hd.len]
    obtain ⟨low, h0, h1, rfl, rfl⟩ := p
    rfl
  · obtain ⟨low, h0, h1, rfl, rfl⟩ := p
    refine vs_openU fun a b c c0 c1 => ?_
    have hL : m + 1 ≤ 1099511627776 := hm
    by_cases ha : 0 < a
    · refine vs_seqR (vs_ifE (vet_view (b := true) (i := 0) rfl ((vt_test (vd_op (vd_op (vd_var (d := .list [.int a, .int b, .int c]) rfl) vd_int (rd_ixL0 (d := .int a) rfl)) vd_int rd_B0)).is (decide_eq_true (by omega)))) (fun _ => ?_) fun z => nomatch z)
      refine vs_seq1 (vs_asgV (i := 0) rfl (vd_op (vd_cb (va_cons (vd_op (vd_var rfl) vd_int (rd_ixL0 rfl)) va_nil) rc_int) (vd_var rfl) (rd_mod (by omega))) rfl) ?_
      refine vs_seq1 (vs_setLV (j := 0) (m' := rfl) rfl hU (vd_op (vd_op (vd_var rfl) vd_int (rd_ixL0 rfl)) (vd_var rfl) (rd_fdiv ⟨by omega, ?_⟩)) rfl vd_int (Nat.lt_of_sub_eq_succ rfl) hF) ?_
      · have : (((low : Nat) : Int)).natAbs = low := by omega
        rw [this]
        exact Nat.lt_of_le_of_lt (Nat.log2_le_self _) (by omega)
      · exact (vs_ret (vb_var rfl)).le (.rt (fun d e => by rw [e]; exact mod_nat a h0) fun H h => urn_close c0 (by omega) h)
    · refine vs_seq1 (vs_ifE (vet_view (b := false) (i := 0) rfl ((vt_test (vd_op (vd_op (vd_var (d := .list [.int a, .int b, .int c]) rfl) vd_int (rd_ixL0 (d := .int a) rfl)) vd_int rd_B0)).is (decide_eq_false (by omega)))) (fun z => nomatch z) fun _ => vs_next) ?_
      refine vs_seq1 (vs_setLV (j := 2) (m' := rfl) rfl hU (vd_op (vd_op (vd_var rfl) vd_int (rd_ixL2 rfl)) vd_int rd_add) rfl vd_int (Nat.lt_of_sub_eq_succ rfl) hF) ?_
      show VS K O (F.and (.lst K U [.int a, .int b, .int (c + 1)] rfl)) _ _ _
      refine vs_seq1 (vs_asgV (i := 0) rfl (vd_op (vd_cb (va_cons (vd_op (vd_op (vd_op (vd_var rfl) vd_int (rd_ixL1 rfl)) (vd_op vd_int (vd_op (vd_var rfl) vd_int (rd_ixL2 rfl)) (rd_mul (.inl (by omega)))) rd_add) (vd_op vd_int (vd_op (vd_var rfl) vd_int (rd_ixL2 rfl)) rd_add) (rd_mul (.inr (by omega)))) va_nil) rc_int) vd_int (rd_mod (by omega))) rfl) ?_
      refine vs_seq1 (vs_asg (vb_im (vd_op (vd_op (vd_cb (va_cons (vd_var rfl) va_nil) rc_int) vd_int (rd_mod (by omega))) vd_int rd_add) rfl) gd_name) ?_
      refine vs_seq1 (vs_asgV (i := 0) rfl (vd_op (vd_cb (va_cons (vd_op (vd_op (vd_op (vd_var rfl) (vd_op (vd_var rfl) vd_int (rd_ixL2 rfl)) rd_add) (vd_op (vd_op (vd_var rfl) vd_int (rd_ixL1 rfl)) vd_int (rd_fdiv ⟨by omega, by decide⟩)) rd_add) (vd_var rfl) (rd_mul (.inr (by omega)))) va_nil) rc_int) vd_int (rd_mod (by omega))) rfl) ?_
      refine (vs_ret (vb_im (vd_op (vd_cb (va_cons (vd_op (vd_op (vd_cb (va_cons (vd_op (vd_op (vd_var rfl) vd_int (rd_mul (.inr (by omega)))) (vd_var rfl) rd_add) va_nil) rc_int) vd_int (rd_mod (by omega))) vd_int (rd_fdiv ⟨by omega, by decide⟩)) va_nil) rc_int) (vd_var rfl) (rd_mod (by omega))) rfl)).le (.rt (fun d e => by rw [e]; exact mod_nat _ h0) fun H h => urn_close (by omega) (by omega) h)

theorem sc_law_of : FnScope ["_law_urn", "_law_some"] ["_law_urn", "_law_some"] (defScope (topS 28)) := ⟨rfl, rfl, rfl, by decide +kernel, rfl, by decide +kernel, by decide +kernel⟩
theorem cb_law_of (W : Wd K mg) (c__law_take : Cb P w K mg base "_law_take" 1 ["_law_urn", "_law_low_here"] (spU K 1 PtakU)) : Cb P w K mg base "_law_of" 2 ["_law_urn", "_law_some"] (spU K 1 PofU) := by
  refine mk_cb W 16 (i := 28) rfl sc_law_of (fun _ _ _ _ _ _ us hl => match us, hl with | [_, _], _ => rfl) (fun vs H Q E h => ?_) fun f cdv A outer s H vs Q E hr h => ⟨_, PSs.nox (
    (pss_one (ps_ret (pe_ix (ix_seqX (K := K) rfl) (pv 1) (pe_cb c__law_take (hr.mono (by omega)) rfl (pa_cons (pv 0) (pa_cons (pe_callB (cr_lenX (K := K) rfl) (by rfl) (W.free "len") (by decide +kernel) (pa_cons (pv 1) pa_nil)) pa_nil))) (fun _ _ => rfl))))), body_U (fun O F U m ds R p hU hm hF hN => ?_) h⟩
  · obtain ⟨O, U, m, ws, ds, R, p, rfl, _, _, _, _, hd, _⟩ := h
    rw [List.length_cons, hd.len]
    obtain ⟨k, es, h0, h1, him, rfl, rfl⟩ := p
    rfl
  · obtain ⟨k, es, h0, h1, him, rfl, rfl⟩ := p
    refine vs_retE (VU.le (vu_op (P := fun d => d ∈ es) (vu_b (vb_var rfl)) (vu_call (P := fun d => ∃ n : Nat, n < es.length ∧ d = .int (n : Nat)) rfl (vua_cons (vu_b (vb_im (vd_cb (va_cons (vd_var rfl) va_nil) rg_lenK) rfl)) vua_nil) (fun ds h => ?_) hm) fun a b ha hb => ?_) (fun d h => h) (Nat.le_refl _) O F hU hF)
    · obtain ⟨d, es', rfl, rfl, rfl⟩ := h
      exact ⟨_, ⟨es.length, h0, h1, rfl, rfl⟩, fun d h => h⟩
    · obtain ⟨n, hn, rfl⟩ := hb
      subst ha
      refine ⟨es[n], List.getElem_mem _, ?_, rd_ixK (List.getElem?_eq_getElem hn)⟩
      rw [imA_all, List.all_eq_true] at him
      exact him _ (List.getElem_mem _)

theorem sc_law_ratio : FnScope ["_law_urn"] ["_law_urn"] (defScope (topS 40)) := ⟨rfl, rfl, rfl, by decide +kernel, rfl, by decide +kernel, by decide +kernel⟩
theorem cb_law_ratio (W : Wd K mg) (c__law_of : Cb P w K mg base "_law_of" 2 ["_law_urn", "_law_some"] (spU K 1 PofU)) : Cb P w K mg base "_law_ratio" 3 ["_law_urn"] (spU K 1 PratU) := by
  refine mk_cb W 28 (i := 40) rfl sc_law_ratio (fun _ _ _ _ _ _ us hl => match us, hl with | [_], _ => rfl) (fun vs H Q E h => ?_) fun f cdv A outer s H vs Q E hr h => ⟨_, PSs.nox (
    (pss_one (ps_ret (pe_cb c__law_of (hr.mono (by omega)) rfl (pa_cons (pv 0) (pa_cons (pe_lst (pa_cons (pe_tup (pa_cons pe_int (pa_cons pe_int pa_nil))) (pa_cons (pe_tup (pa_cons pe_int (pa_cons pe_int pa_nil))) (pa_cons (pe_tup (pa_cons (pe_un un_neg pe_int) (pa_cons pe_int pa_nil))) (pa_cons (pe_tup (pa_cons pe_int (pa_cons pe_int pa_nil))) (pa_cons (pe_tup (pa_cons pe_int (pa_cons pe_int pa_nil))) (pa_cons (pe_tup (pa_cons (pe_un un_neg pe_int) (pa_cons pe_int pa_nil))) (pa_cons (pe_tup (pa_cons pe_int (pa_cons pe_int pa_nil))) (pa_cons (pe_tup (pa_cons (pe_un un_neg pe_int) (pa_cons pe_int pa_nil))) (pa_cons (pe_tup (pa_cons pe_int (pa_cons pe_int pa_nil))) pa_nil)))))))))) pa_nil)))))), body_U (fun O F U m ds R p hU hm hF hN => ?_) h⟩
  · obtain ⟨O, U, m, ws, ds, R, p, rfl, _, _, _, _, hd, _⟩ := h
    rw [List.length_cons, hd.len]
    obtain ⟨rfl, rfl⟩ := p
    rfl
  · obtain ⟨rfl, rfl⟩ := p
    have q : ∀ q : Rat, ∀ a b : Int, q.num = a → ((q.den : Nat) : Int) = b → ∀ env : List Sl, VD K (tTup (tCons (tC (.int a)) (tCons (tC (.int b)) tNil))) env (encQ q) := fun q a b e1 e2 env => by
      unfold encQ
      rw [e1, e2]
      exact vd_tup (va_cons vd_int (va_cons vd_int va_nil)) (Nat.le_of_ble_eq_true rfl)
    have qn : ∀ q : Rat, ∀ a b : Int, q.num = -a → ((q.den : Nat) : Int) = b → ∀ env : List Sl, VD K (tTup (tCons (tUn (rU fun i => .int (-i)) (tC (.int a))) (tCons (tC (.int b)) tNil))) env (encQ q) := fun q a b e1 e2 env => by
      unfold encQ
      rw [e1, e2]
      exact vd_tup (va_cons (vd_un vd_int ru_I) (va_cons vd_int va_nil)) (Nat.le_of_ble_eq_true rfl)
    refine vs_retE (VU.le (vu_call (P := fun d => d ∈ ratios.map encQ) rfl (vua_b (ds := [.list (ratios.map encQ)]) (vba_cons (vb_new (vn_lst (va_cons (q (rq 1 1) 1 1 rfl rfl _) (va_cons (q (rq 1 1) 1 1 rfl rfl _) (va_cons (qn (rq (-1) 1) 1 1 rfl rfl _) (va_cons (q (rq 1 2) 1 2 rfl rfl _) (va_cons (q (rq 2 1) 2 1 rfl rfl _) (va_cons (qn (rq (-1) 2) 1 2 rfl rfl _) (va_cons (q (rq 1 3) 1 3 rfl rfl _) (va_cons (qn (rq (-2) 3) 2 3 rfl rfl _) (va_cons (q (rq 3 2) 3 2 rfl rfl _) va_nil))))))))) (Nat.le_of_ble_eq_true rfl)) (imA_map _ im_encQ ratios)) vba_nil)) (fun ds h => ?_) hm) (fun d h => ?_) (Nat.le_refl _) O F hU hF)
    · subst h
      exact ⟨_, ⟨true, ratios.map encQ, by decide, by decide, imA_map _ im_encQ ratios, rfl, rfl⟩, fun d h => h⟩
    · obtain ⟨q, h1, h2⟩ := List.mem_map.mp h
      exact ⟨q, h1, h2.symm⟩
end
end NB
end S_NbD9

section S_NbD10
set_option Elab.async false
set_option linter.all false
set_option maxRecDepth 100000
set_option maxHeartbeats 4000000
set_option exponentiation.threshold 100000
namespace NB
open PySem PySem.Spec PyProof.Rows L2
open Evl (Ex)
local macro_rules | `(tactic| walk_at "vd") => `(tactic| repeat' (first
  | exact vd_var rfl | exact vd_int | exact vd_bl | exact va_nil | exact vba_nil | exact vt_yes
  | with_reducible apply va_cons | with_reducible apply vt_test | with_reducible apply vt_not | with_reducible apply vt_B
  | with_reducible apply vd_tup | with_reducible apply vd_cb | with_reducible apply vd_op | with_reducible apply vd_un
  | exact rd_add | exact rd_ix0 rfl | exact rd_ix1 rfl | exact rd_I0 | exact rd_B0 | exact ru_I
  | exact rg_lenT | exact rg_lenL | exact rc_abs | exact rc_gcd
  | exact Nat.le_of_ble_eq_true rfl))
local macro_rules | `(tactic| walk_at "le") => `(tactic| repeat (first | exact Le.nil | apply Le.same | apply Le.drop))
section
variable {P : Program} {w : World} {K : PySem.W.Frag} {mg : Str → Option Value} {base : Heap}

def boxA (x : Int) : Int := (x.natAbs : Nat) * (if decide ((x.natAbs : Int) ≥ 10 ^ 18) then 1 else 0)
def boxB (x : Int) : Int := x % 2305843009213693951 + 39373 * 0 + 154613
def PboxN (ds es : List PyData) : Prop := ∃ x : Int, ds = [.list [.int x], .int 0] ∧ es = [.int (boxA x), .int (boxB x), .int 0]
def celf (is : List Int) : Int := ((is.drop 1).take 62).zipIdx.foldl (fun x q => x + q.1 * ((q.2 : Nat) + 2)) (is.headD 0)
def PcelN (ds es : List PyData) : Prop := ∃ is : List Int, ds = [.list (is.map .int), .int 1] ∧ es = [.int (celf is)]
section
variable {K : PySem.W.Frag} {env : List Sl} {ta tb : TE} {ds es : List PyData}
def VO (K : PySem.W.Frag) (to : TO) (env : List Sl) (o : Option Int) : Prop := ∀ σ B, Sg K B σ env → ∀ H (Q : Option Int → Hp → Prop), Q o H → to σ H Q
theorem vo_none : VO K tNoPart env none := fun _ _ _ _ _ q => q
theorem vo_int {i : Int} : VO K (tPart (tC (.int i))) env (some i) := fun _ _ _ _ _ q => ⟨i, rfl, q⟩
theorem vo_var {n : Nat} {i : Int} (h : env[n]? = some (.d (.int i))) : VO K (tPart (tVar n)) env (some i) := fun σ B s H Q q => by
  obtain ⟨v, h1, h2⟩ := s.getD h
  rw [dt_int h2] at h1
  exact ⟨_, h1, i, rfl, q⟩
theorem vn_slV {tl th : TO} {te : TE} {lo hi : Option Int} (h : VD K te env (.list ds)) (hl : VO K tl env lo) (hh : VO K th env hi) : VN K (tSl (rSlL K) te tl th) env (cutD ds lo hi) := fun σ B s H1 e Q q =>
  h σ B s H1 e _ fun v H2 e2 hv => hl σ B s H2 _ (hh σ B s H2 _ (by
    obtain ⟨p, xs, rfl, hp, hx⟩ := dt_lst hv
    exact ⟨p, xs, rfl, SqL.of hp, fun z hz => q z _ _ (e2.back hz) (e2.trans (Ex.new hz)) upd_same (DtA.ex (Ex.new hz) _ _ hx.cut)⟩))
theorem vn_orT (h1 : VN K ta env ds) (h2 : VN K tb env es) : VN K (tOrT K ta tb) env (if ds = [] then es else ds) := fun σ B s H1 e Q q => h1 σ B s H1 e _ fun p xs H2 hp e2 hx hd => by
  refine ⟨!xs.isEmpty, .inl ⟨xs, SqL.of hx, rfl⟩, ?_⟩
  cases hd with
  | nil =>
    rw [if_pos rfl] at q
    exact h2 σ B s H2 (e.trans e2) _ fun p2 ys H3 hp2 e3 hy hd2 => q p2 ys H3 (e2.back hp2) (e2.trans e3) hy hd2
  | @cons v d vs ds' a t =>
    rw [if_neg (by simp)] at q
    exact q p _ H2 hp e2 hx (.cons a t)
end
theorem cut_1 (is : List Int) : cutD (is.map .int) none (some 1) = (is.take 1).map .int := by
  unfold cutD
  rw [HT.sIx_none, show (some (1 : Int)) = some ((1 : Nat) : Int) from rfl, HT.sIx_nat, List.length_map, List.map_take]
  cases is with
  | nil => rfl
  | cons d ds =>
    have : min 1 (d :: ds).length = 1 := by rw [List.length_cons]; omega
    rw [this]; rfl
theorem cut_63 (is : List Int) : cutD (is.map .int) (some 1) (some 63) = ((is.drop 1).take 62).map .int := by
  unfold cutD
  rw [show (some (1 : Int)) = some ((1 : Nat) : Int) from rfl, show (some (63 : Int)) = some ((63 : Nat) : Int) from rfl, HT.sIx_nat, HT.sIx_nat, List.length_map, List.map_take, List.map_drop]
  cases is with
  | nil => rfl
  | cons d ds =>
    have : min 1 (d :: ds).length = 1 := by rw [List.length_cons]; omega
    rw [this]
    show List.take _ (ds.map _) = List.take 62 (ds.map _)
    by_cases h : ds.length ≤ 62
    · rw [List.take_of_length_le, List.take_of_length_le]
      · rw [List.length_map]; exact h
      · rw [List.length_map, List.length_cons]; omega
    · congr 1
      rw [List.length_cons]; omega

theorem sc_law_box : FnScope ["_law_script", "_law_at", "_law_cell"] ["_law_script", "_law_at"] (defScope (topS 25)) := ⟨rfl, rfl, rfl, by decide +kernel, rfl, by decide +kernel, by decide +kernel⟩
theorem cb_law_box (W : Wd K mg) : Cb P w K mg base "_law_box" 1 ["_law_script", "_law_at"] (spN K PboxN) := by
  refine mk_cb W 13 (i := 25) rfl sc_law_box (fun _ _ _ _ _ _ us hl => match us, hl with | [_, _], _ => rfl) (fun vs H Q E h => ?_) fun f cdv A outer s H vs Q E hr h => ⟨_, PSs.nox (
    (pss_cons (ps_set (i := 2) sc_law_box.nd rfl (by first | exact Or.inl rfl | exact Or.inr rfl) (pe_ifExp (pt_cmpR op_lt (pv 1) (pe_callB (cr_lenX (K := K) rfl) (by rfl) (W.free "len") (by decide +kernel) (pa_cons (pv 0) pa_nil)) (nomark _)) (pe_ix (ix_seqX (K := K) rfl) (pv 0) (pv 1) (fun _ _ => rfl)) pe_int))
  (pss_one (ps_ret (pe_lst (pa_cons (pe_op (op_mulX (K := K) rfl) (pe_callB call_abs (by rfl) (W.free "abs") (by decide +kernel) (pa_cons (pv 2) pa_nil)) (pe_callTy call_int1 (by rfl) (W.free "int") (by decide +kernel) (pa_cons (pe_cmpR op_ge (pe_callB call_abs (by rfl) (W.free "abs") (by decide +kernel) (pa_cons (pv 2) pa_nil)) (pe_op op_pow pe_int pe_int) (nomark _)) pa_nil))) (pa_cons (pe_op (op_addX (K := K) rfl) (pe_op (op_addX (K := K) rfl) (pe_op op_mod (pe_callTy call_int1 (by rfl) (W.free "int") (by decide +kernel) (pa_cons (pv 2) pa_nil)) pe_int) (pe_op (op_mulX (K := K) rfl) pe_int (pv 1))) pe_int) (pa_cons pe_int pa_nil)))))))), body_N (F := As.emp) (fun ds d p => ?_) h⟩
  · obtain ⟨ds, d, p, hd, _⟩ := h
    rw [hd.len]
    obtain ⟨x, rfl, rfl⟩ := p
    rfl
  · obtain ⟨x, rfl, rfl⟩ := p
    refine vs_seq1 (vs_asg0 (d := .int x) (vd_if (c := true) (VT.is (vt_test (vd_op (vd_var (d := .int 0) rfl) (vd_cb (va_cons (vd_var (d := .list [.int x]) rfl) va_nil) rg_lenL) rd_B0)) rfl) (fun _ => vd_op (vd_var (d := .list [.int x]) rfl) (vd_var (d := .int 0) rfl) (rd_ixL0 rfl)) fun z => nomatch z) gd_name) ?_
    refine vs_retN0 (vn_lst (va_cons (vd_op (vd_cb (va_cons (vd_var rfl) va_nil) rc_abs) (vd_cb (va_cons (vd_op (vd_cb (va_cons (vd_var rfl) va_nil) rc_abs) (vd_op vd_int vd_int (rd_I ⟨by decide, by decide, by decide⟩)) rd_B0) va_nil) rc_intB) (rd_mul (.inr (by split <;> omega)))) (va_cons (vd_op (vd_op (vd_op (vd_cb (va_cons (vd_var rfl) va_nil) rc_int) vd_int (rd_mod (by omega))) (vd_op vd_int (vd_var rfl) (rd_mul (.inl (by omega)))) rd_add) vd_int rd_add) (va_cons vd_int va_nil))) (Nat.le_of_ble_eq_true rfl))

theorem sc_law_cells : FnScope ["_law_script", "_law_roof", "_law_cells_here", "_law_at", "_law_cell", "_law_spot"] ["_law_script", "_law_roof"] (defScope (topS 27)) := ⟨rfl, rfl, rfl, by decide +kernel, rfl, by decide +kernel, by decide +kernel⟩
theorem cb_law_cells (W : Wd K mg) : Cb P w K mg base "_law_cells" 1 ["_law_script", "_law_roof"] (spN K PcelN) := by
  refine mk_cb W 15 (i := 27) rfl sc_law_cells (fun _ _ _ _ _ _ us hl => match us, hl with | [_, _], _ => rfl) (fun vs H Q E h => ?_) fun f cdv A outer s H vs Q E hr h => ⟨_, PSs.nox (
    (pss_cons (ps_set (i := 2) sc_law_cells.nd rfl (by first | exact Or.inl rfl | exact Or.inr rfl) (pe_orTX (K := K) rfl (pe_callTy (cr_listX (K := K) rfl) (by rfl) (W.free "list") (by decide +kernel) (pa_cons (pe_slice (sl_listX (K := K) rfl) (pv 0) po_none (po_some (pv 1))) pa_nil)) (pe_one (pe_lst (pa_cons pe_int pa_nil)))))
  (pss_cons (ps_for PassesOwn.never rfl (pi_enumX (K := K) rfl rfl (W.free "enumerate") (pa_cons (pe_slice (sl_listX (K := K) rfl) (pv 0) (po_some (pv 1)) (po_some pe_int)) pa_nil)) (pg_tupX (n := 2) (K := K) rfl rfl (pgs_cons (pg_name (i := 3) sc_law_cells.nd rfl (by first | exact Or.inl rfl | exact Or.inr rfl)) (pgs_cons (pg_name (i := 4) sc_law_cells.nd rfl (by first | exact Or.inl rfl | exact Or.inr rfl)) pgs_nil))) (pss_cons (ps_set (i := 5) sc_law_cells.nd rfl (by first | exact Or.inl rfl | exact Or.inr rfl) (pe_op op_mod (pe_callTy call_int1 (by rfl) (W.free "int") (by decide +kernel) (pa_cons (pv 3) pa_nil)) (pv 1)))
  (pss_one (ps_asg (pe_op (op_addX (K := K) rfl) (pe_ix (ix_seqX (K := K) rfl) (pv 2) (pv 5) (fun _ _ => rfl)) (pe_op (op_mulX (K := K) rfl) (pv 4) (pe_op (op_addX (K := K) rfl) (pv 3) pe_int))) (pg_sub (pv 2) (pv 5) set_list)))))
  (pss_one (ps_ret (pv 2)))))), body_N (F := As.emp) (fun ds d p => ?_) h⟩
  · obtain ⟨ds, d, p, hd, _⟩ := h
    rw [hd.len]
    obtain ⟨is, rfl, rfl⟩ := p
    rfl
  · obtain ⟨is, rfl, rfl⟩ := p
    let st := fun (x : Int) (q : Int × Nat) => x + q.1 * ((q.2 : Nat) + 2)
    let qs := ((is.drop 1).take 62).zipIdx
    refine vs_newL (ds := [.int ((qs.take 0).foldl st (is.headD 0))]) rfl ((vn_orT (vn_cb (va_cons (VN.dat ((vn_slV (vd_var rfl) vo_none (vo_var rfl)).is (cut_1 is))) va_nil) rg_listL) (vn_lst (va_cons (vd_int (i := 0)) va_nil) (Nat.le_of_ble_eq_true rfl))).is ?_) fun a ha => ⟨.ro a (As.emp.and (.lst K a [.int (celf is)] rfl)), .ro fun H h => ⟨trivial, ?_⟩, ?_⟩
    · cases is <;> rfl
    · obtain ⟨xs, h1, h2⟩ := h.2
      exact ⟨xs, _, h1, h2, rfl, rfl⟩
    refine vs_seq1 (vs_forT (f := fun q : Int × Nat => .tuple [.int (q.2 : Nat), .int q.1]) (xs := qs) (fun i => [.d (.list (is.map .int)), .d (.int 1), .v (.ref a), .no, .no, .no]) (fun i => As.emp.and (.lst K a [.int ((qs.take i).foldl st (is.headD 0))] rfl)) ((vi_enum (k := true) (ds := ((is.drop 1).take 62).map .int) (vb_new ((vn_slV (vd_var rfl) (vo_var rfl) vo_int).is (cut_63 is)) (imA_map _ (fun _ => rfl) _))).is (enumD_map .int _)) (Le.refl _) (fun H h => h) fun i q hq => ?_) ?_
    · refine ⟨_, _, _, gd_tup (gds_cons gd_name (gds_cons gd_name gds_nil)) rfl, vs_seq1 (vs_asg (d := .int 0) (vb_im ((vd_op (vd_cb (va_cons (vd_var rfl) va_nil) rc_int) (vd_var (d := .int 1) rfl) (rd_mod (by omega))).is (by congr 1; omega)) rfl) gd_name) ((vs_setLV (i := 2) (j := 0) (m' := rfl) rfl List.mem_cons_self (vd_op (vd_op (vd_var rfl) (vd_var rfl) (rd_ixL0 rfl)) (vd_op (vd_var rfl) (vd_op (vd_var rfl) vd_int rd_add) (rd_mul (.inr ?_))) rd_add) rfl (vd_var rfl) (Nat.lt_of_sub_eq_succ rfl) As.off_emp).le (.nx (fun e he => ⟨e, he, Le.refl _⟩) fun H h => ?_)), ?_⟩
      · have h1 := (List.getElem?_eq_some_iff.mp hq).1
        have h2 : q.2 = i := by
          rw [List.getElem?_zipIdx] at hq
          obtain ⟨t, ht, rfl⟩ := Option.map_eq_some_iff.mp hq
          simp
        rw [List.length_zipIdx, List.length_take] at h1
        omega
      · refine ⟨trivial, ?_⟩
        obtain ⟨xs, h1, h2⟩ := h.2
        refine ⟨xs, h1, ?_⟩
        rw [fold_take _ _ _ hq]
        exact h2
      · walk_at "le"
    · rw [List.take_length]
      exact vs_retO rfl
end
end NB
end S_NbD10

section S_NbN
set_option Elab.async false
set_option linter.all false
set_option maxRecDepth 100000
set_option maxHeartbeats 4000000
namespace NB
open PySem PySem.Spec PyProof.Rows L2 PySem.W
open Evl (Ex)

/-! ### owned rows of owned rows -/
def rv (r : List Nat) : List V := r.map fun n => .int (n : Nat)
def encL (r : List Nat) : PyData := .list (r.map fun n => .int (n : Nat))
theorem dta_rv {K : PySem.W.Frag} {H : Hp} : ∀ r : List Nat, DtA K H (rv r) (r.map fun n => .int (n : Nat))
  | [] => .nil
  | n :: r => .cons (.int _) (dta_rv r)
def Rows (H : Hp) : List Addr → Pw → Prop
  | [], [] => True
  | a :: as, r :: p => H a = some (.lst (rv r)) ∧ Rows H as p
  | _, _ => False
theorem Rows.ex {H H' : Hp} (e : Ex H H') : ∀ {as : List Addr} {p : Pw}, Rows H as p → Rows H' as p
  | [], [], _ => trivial
  | _ :: _, _ :: _, h => ⟨e _ _ h.1, Rows.ex e h.2⟩
theorem Rows.len {H : Hp} : ∀ {as : List Addr} {p : Pw}, Rows H as p → as.length = p.length
  | [], [], _ => rfl
  | _ :: _, _ :: _, h => by rw [List.length_cons, List.length_cons, Rows.len h.2]
theorem Rows.same {H H' : Hp} : ∀ {as : List Addr} {p : Pw}, (∀ a ∈ as, H' a = H a) → Rows H as p → Rows H' as p
  | [], [], _, _ => trivial
  | _ :: _, _ :: _, k, h => ⟨(k _ List.mem_cons_self).trans h.1, Rows.same (fun a m => k a (List.mem_cons_of_mem _ m)) h.2⟩
theorem Rows.dta {K : PySem.W.Frag} {H : Hp} : ∀ {as : List Addr} {p : Pw}, Rows H as p → DtA K H (as.map .ref) (p.map encL)
  | [], [], _ => .nil
  | _ :: _, _ :: _, h => .cons (.lst h.1 (dta_rv _)) (Rows.dta h.2)
theorem Rows.at {H : Hp} : ∀ {as : List Addr} {p : Pw}, Rows H as p → ∀ {i : Nat} {r : List Nat}, p[i]? = some r → ∃ a, as[i]? = some a ∧ H a = some (.lst (rv r))
  | [], [], _, i, r, h => by simp at h
  | a :: _, _ :: _, h, 0, r, e => by simp at e; subst e; exact ⟨a, rfl, h.1⟩
  | _ :: _, _ :: _, h, i + 1, r, e => Rows.at h.2 (by simpa using e)
theorem Rows.set {H : Hp} {a : Addr} {r : List Nat} : ∀ {as : List Addr} {p : Pw}, as.Nodup → Rows H as p → ∀ {i : Nat}, as[i]? = some a → Rows (upd H a (.lst (rv r))) as (p.set i r)
  | [], [], _, _, i, h => by simp at h
  | b :: as, q :: p, nd, h, 0, e => by
    simp at e
    subst e
    refine ⟨upd_same, Rows.same (fun c m => upd_ne fun e => ?_) h.2⟩
    exact (List.nodup_cons.mp nd).1 (e ▸ m)
  | b :: as, q :: p, nd, h, i + 1, e => by
    have e : as[i]? = some a := by simpa using e
    have ne : b ≠ a := fun z => (List.nodup_cons.mp nd).1 (z ▸ List.mem_of_getElem? e)
    exact ⟨(upd_ne ne).trans h.1, Rows.set (List.nodup_cons.mp nd).2 h.2 e⟩
/-- rows of n rows of w numbers, all in all no more than i -/
def As.mat (A : Addr) (as : List Addr) (n w i : Nat) : As := ⟨fun H => ∃ p : Pw, p.length = n ∧ (∀ r ∈ p, r.length = w) ∧ psum p ≤ i ∧ H A = some (.lst (as.map .ref)) ∧ Rows H as p,
  fun H H' e ⟨p, h1, h2, h3, h4, h5⟩ => ⟨p, h1, h2, h3, e _ _ h4, h5.ex e⟩⟩
theorem As.off_mat {A U : Addr} {as : List Addr} {n w i : Nat} (h1 : A ≠ U) (h2 : U ∉ as) : (As.mat A as n w i).Off U := fun H H' k t ⟨p, g1, g2, g3, g4, g5⟩ => ⟨p, g1, g2, g3, (k A h1).trans g4, g5.same fun a m => k a fun e => h2 (e ▸ m)⟩
theorem sum_set : ∀ (l : List Nat) (i x y : Nat), l[i]? = some y → (l.set i x).sum + y = l.sum + x
  | [], i, x, y, h => by simp at h
  | a :: l, 0, x, y, h => by
    simp at h; subst h
    simp only [List.set_cons_zero, List.sum_cons]; omega
  | a :: l, i + 1, x, y, h => by
    have := sum_set l i x y (by simpa using h)
    simp only [List.set_cons_succ, List.sum_cons]; omega
theorem psum_set (p : Pw) {i : Nat} {r s : List Nat} (h : p[i]? = some r) (hs : s.sum = r.sum + 1) : psum (p.set i s) = psum p + 1 := by
  unfold psum
  rw [List.map_set]
  have := sum_set (p.map List.sum) i s.sum r.sum (by rw [List.getElem?_map, h]; rfl)
  omega
section
variable {K : PySem.W.Frag} {O as : List Addr} {A U : Addr} {F F1 F2 G G1 G2 : As} {env env' : List Sl} {te : TE} {u : TS} {d : PyData} {n w i : Nat} {P : PyData → Prop}
/-- one more in a row of rows -/
theorem vs_bump {ri ra rc : Nat} {at_ c : Nat} (hi : env[ri]? = some (.v (.ref A))) (ha : env[ra]? = some (.d (.int (at_ : Nat)))) (hc : env[rc]? = some (.d (.int (c : Nat)))) (h1 : at_ < n) (h2 : c < w) (hO : ∀ a ∈ as, a ∈ O) (nd : (A :: as).Nodup) (g1 : ∀ a ∈ as, G1.Off a) (g2 : ∀ a ∈ as, G2.Off a)
    (hne1 : ri ≠ ra) (hne2 : ri ≠ rc) :
    VS K O ((G1.and (.mat A as n w i)).and G2) (tAsg (tOp (rAddG K) (tOp (rIx K) (tOp (rIx K) (tVar ri) (tVar ra)) (tVar rc)) (tC (.int 1))) (gSub (tOp (rIx K) (tVar ri) (tVar ra)) (tVar rc) rSetL)) env (.nx (· = env) ((G1.and (.mat A as n w (i + 1))).and G2)) := fun D σ H z q => by
  obtain ⟨⟨f1, p, p1, p2, p3, p4, p5⟩, f2⟩ := z.as
  have s : Sg K H σ (env.set ri (.d (.list (p.map encL)))) := z.s.at (x := .d (.list (p.map encL))) ⟨_, rfl, .lst p4 p5.dta⟩ (z.sg.getV hi)
  have hat : at_ < p.length := by omega
  obtain ⟨a, a1, a2⟩ := p5.at (List.getElem?_eq_getElem hat)
  have rl : (p[at_]).length = w := p2 _ (List.getElem_mem _)
  have cl : c < (p[at_]).length := by omega
  have li : ri < env.length := (List.getElem?_eq_some_iff.mp hi).1
  have k0 : (env.set ri (.d (.list (p.map encL))))[ri]? = some (.d (.list (p.map encL))) := List.getElem?_set_self li
  have ka : (env.set ri (.d (.list (p.map encL))))[ra]? = some (.d (.int (at_ : Nat))) := by rw [List.getElem?_set_ne hne1]; exact ha
  have kc : (env.set ri (.d (.list (p.map encL))))[rc]? = some (.d (.int (c : Nat))) := by rw [List.getElem?_set_ne hne2]; exact hc
  have rd1 : VD K (tOp (rIx K) (tVar ri) (tVar ra)) (env.set ri (.d (.list (p.map encL)))) (encL p[at_]) := vd_op (vd_var k0) (vd_var ka) (rd_ixL (by rw [List.getElem?_map, List.getElem?_eq_getElem hat]; rfl))
  have rd2 : VD K (tOp (rAddG K) (tOp (rIx K) (tOp (rIx K) (tVar ri) (tVar ra)) (tVar rc)) (tC (.int 1))) (env.set ri (.d (.list (p.map encL)))) (.int ((p[at_][c] : Nat) + 1)) := vd_op (vd_op rd1 (vd_var kc) (rd_ixL (d := .int ((p[at_][c] : Nat) : Int)) (by rw [List.getElem?_map, List.getElem?_eq_getElem cl]; rfl))) vd_int rd_add
  refine rd2 σ H s H (Ex.refl _) _ fun v H2 e2 hv => ?_
  refine ⟨_, z.sg.getV hi, ?_⟩
  obtain ⟨va, va1, va2⟩ := z.s.getD ha
  refine ⟨va, va1, ?_⟩
  rw [dt_int va2]
  have ax : atI (as.map V.ref) ((at_ : Nat) : Int) = some (.ref a) := by
    have la : at_ < as.length := (List.getElem?_eq_some_iff.mp a1).1
    unfold atI ixN
    rw [if_pos (by omega), List.length_map, if_pos (by omega)]
    show (as.map V.ref)[((at_ : Nat) : Int).toNat]? = _
    rw [show ((at_ : Nat) : Int).toNat = at_ from by simp, List.getElem?_map, a1]; rfl
  obtain ⟨vc, vc1, vc2⟩ := z.s.getD hc
  refine .inl ⟨A, as.map .ref, (at_ : Nat), .ref a, rfl, rfl, SqL.of (e2 _ _ p4), ax, vc, vc1, ?_⟩
  rw [dt_int vc2]
  have aO : a ∈ O := hO a (List.mem_of_getElem? a1)
  have z2 := z.ex e2
  have aA : a ∈ as := List.mem_of_getElem? a1
  have Aa : A ≠ a := fun e => (List.nodup_cons.mp nd).1 (e ▸ aA)
  have ls : (rv p[at_]).length = w := by unfold rv; rw [List.length_map]; exact rl
  have es : (rv p[at_]).set c v = rv ((p[at_]).set c (p[at_][c] + 1)) := by
    rw [dt_int hv]
    unfold rv
    rw [List.map_set]; rfl
  refine ⟨a, rv p[at_], (c : Nat), c, rfl, rfl, e2 _ _ a2, ?_, ?_⟩
  · unfold ixN
    rw [if_pos (by omega), if_pos (by omega)]; simp
  · rw [es]
    have tk : Tk H2 (upd H2 a (.lst (rv ((p[at_]).set c (p[at_][c] + 1))))) := z2.tkm aO
    refine q env σ _ rfl ((XO.of e2).trans (XO.mut aO fun b nb => upd_ne nb)) (z2.mut aO trivial ⟨⟨g1 a aA _ _ (fun b nb => upd_ne nb) tk (G1.st _ _ e2 f1), p.set at_ ((p[at_]).set c (p[at_][c] + 1)), by rw [List.length_set]; exact p1, fun r hr => ?_, ?_, (upd_ne Aa).trans (e2 _ _ p4), (p5.ex e2).set (List.nodup_cons.mp nd).2 a1⟩, g2 a aA _ _ (fun b nb => upd_ne nb) tk (G2.st _ _ e2 f2)⟩)
    · rcases List.mem_or_eq_of_mem_set hr with hr | rfl
      · exact p2 r hr
      · rw [List.length_set]; exact rl
    · have h5 := sum_set p[at_] c (p[at_][c] + 1) p[at_][c] (List.getElem?_eq_getElem cl)
      rw [psum_set p (List.getElem?_eq_getElem hat) (by omega)]; omega
/-- the rows are read -/
theorem vs_retM {ri : Nat} (hi : env[ri]? = some (.v (.ref A))) (h : ∀ p : Pw, p.length = n → (∀ r ∈ p, r.length = w) → psum p ≤ i → ∃ d, P d ∧ im d = true ∧ VD K te (env.set ri (.d (.list (p.map encL)))) d) : VS K O ((G1.and (.mat A as n w i)).and G2) (tRet te) env (.rt P (G1.and G2)) := fun D σ H z q => by
  obtain ⟨⟨f1, p, p1, p2, p3, p4, p5⟩, f2⟩ := z.as
  have s : Sg K H σ (env.set ri (.d (.list (p.map encL)))) := z.s.at (x := .d (.list (p.map encL))) ⟨_, rfl, .lst p4 p5.dta⟩ (z.sg.getV hi)
  obtain ⟨d, pd, m, hd⟩ := h p p1 p2 p3
  exact hd σ H s H (Ex.refl _) _ fun v H2 e2 hv => q v d H2 pd (XO.of e2) ⟨G1.st _ _ e2 f1, G2.st _ _ e2 f2⟩ (Dt.tk (z.ex e2).tkB _ _ m hv)
/-- new rows of new rows -/
theorem mat_lc {wi : TI} {g : L2.TG} {vs : List Nat} {ds : List PyData} {r : List Nat} (hi : VI K wi env ds) (hz : ds.length ≤ 1000) (h : ∀ d ∈ ds, ∃ env' is, GD K g (ew env vs) d env' is ∧ (∀ i ∈ is, i ∈ vs) ∧ VN K te env' (r.map fun n => .int (n : Nat))) :
    ∀ σ B, Sg K B σ env → ∀ H1, Ex B H1 → ∀ Q : VK, (∀ D as H2, H1 D = none → (∀ a ∈ as, H1 a = none) → (D :: as).Nodup → Ex H1 H2 → H2 D = some (.lst (as.map .ref)) → Rows H2 as (List.replicate ds.length r) → Q (.ref D) H2) → tLc wi g tYes te vs σ H1 Q := fun σ B s H1 e Q q => by
  refine hi σ B s H1 e _ fun J H2 e2 hw D hD => ?_
  have w := hw H2 (Bok.all e e2)
  refine lc_it w (fun i H => Ex H2 H ∧ ∃ as, H D = some (.lst (as.map V.ref)) ∧ (∀ a ∈ as, H2 a = none) ∧ (D :: as).Nodup ∧ Rows H as (List.replicate i r)) ⟨Ex.new hD, [], upd_same, fun a m => (by cases m), by simp, trivial⟩ (fun i H _ p => p.1) (fun i x H H' hi p y => ?_) (fun H p => ?_)
  · obtain ⟨p1, as, p2, p3, p4, p5⟩ := p
    obtain ⟨y1, d, y2, y3⟩ := y
    obtain ⟨env', is, g1, g2, g3⟩ := h d (List.mem_of_getElem? y2)
    have p12 : Ex H2 H' := p1.trans y1
    have hb : Ex H2 (er H' D) := er_in p12 hD
    have s' : Sg K (er H' D) (L2.wipe σ vs) (ew env vs) := (s.ex ((e.trans e2).trans hb)).wipe vs
    have hx : Dt K (er H' D) x d := y3 _ hb fun a o h1 h2 => by
      unfold er
      rw [if_neg, h2]
      intro z
      subst z
      rw [p2] at h1
      cases h1
    refine g1 (er H' D) _ x H' s' (er_sub _ _) hx _ fun σ2 s2 w2 => ⟨?_, ?_⟩
    · rw [w2 vs g2]
      exact wipe_wipe σ vs
    · show te σ2 H' _
      refine g3 σ2 _ s2 H' (er_sub _ _) _ fun b xs H4 hb4 e4 hx4 hd4 => ?_
      have hl4 : H4 D = some (.lst (as.map V.ref)) := e4 _ _ (y1 _ _ p2)
      have bD : b ≠ D := fun e => by rw [e, y1 _ _ p2] at hb4; cases hb4
      have bas : b ∉ as := fun m => by
        obtain ⟨j, hj, ej⟩ := List.mem_iff_getElem.mp m
        have lj : j < (List.replicate i r).length := by rw [← p5.len]; exact hj
        obtain ⟨a', ha', hb'⟩ := p5.at (List.getElem?_eq_getElem lj)
        rw [List.getElem?_eq_getElem hj, ej] at ha'
        cases ha'
        rw [y1 _ _ hb'] at hb4; cases hb4
      have xe : xs = rv r := by
        have := dta_ints (K := K) (H := H4) (ns := r.map fun n => ((n : Nat) : Int)) (vs := xs) (by rw [List.map_map]; exact hd4)
        rw [this, List.map_map]; rfl
      subst xe
      have al : (as.map V.ref).length < sizeLine := by
        rw [List.length_map, p5.len, List.length_replicate]
        exact Nat.lt_of_lt_of_le hi (Nat.le_trans hz (by decide))
      refine ⟨_, hl4, al, Ex.mut (p12.trans e4) hD, as ++ [b], by rw [List.map_append]; exact upd_same, fun a m => ?_, ?_, ?_⟩
      · rcases List.mem_append.mp m with m | m
        · exact p3 a m
        · rw [List.mem_singleton.mp m]; exact p12.back hb4
      · rw [← List.cons_append, List.nodup_append]
        refine ⟨p4, by simp, fun a ha c hc => ?_⟩
        rw [List.mem_singleton.mp hc]
        rintro rfl
        rcases List.mem_cons.mp ha with e | m
        · exact bD e
        · exact bas m
      · rw [List.replicate_succ']
        have r4 : Rows (upd H4 D (.lst (as.map V.ref ++ [V.ref b]))) as (List.replicate i r) := Rows.same (fun a m => upd_ne fun e => (List.nodup_cons.mp p4).1 (e ▸ m)) ((p5.ex y1).ex e4)
        have app : ∀ {as : List Addr} {p : Pw} {H : Hp} {b : Addr} {s : List Nat}, Rows H as p → H b = some (.lst (rv s)) → Rows H (as ++ [b]) (p ++ [s]) := by
          intro as
          induction as with
          | nil => intro p H b s h1 h2; cases p with
            | nil => exact ⟨h2, trivial⟩
            | cons _ _ => exact h1.elim
          | cons a as ih => intro p H b s h1 h2; cases p with
            | nil => exact h1.elim
            | cons x p => exact ⟨h1.1, ih h1.2 h2⟩
        exact app r4 ((upd_ne bD).trans hx4)
  · obtain ⟨p1, as, p2, p3, p4, p5⟩ := p
    exact q D as H (e2.back hD) (fun a m => e2.back (p3 a m)) p4 (e2.trans p1) p2 p5
theorem vs_newM {wi : TI} {g : L2.TG} {vs : List Nat} {ds : List PyData} {r : List Nat} {ri : Nat} (hi : VI K wi env ds) (hz : ds.length ≤ 1000) (h : ∀ d ∈ ds, ∃ env' is, GD K g (ew env vs) d env' is ∧ (∀ i ∈ is, i ∈ vs) ∧ VN K te env' (r.map fun n => .int (n : Nat))) (hr : r.sum = 0)
    (hu : ∀ A as, A ∉ O → (∀ a ∈ as, a ∉ O) → (A :: as).Nodup → VS K (A :: as ++ O) (F.and (.mat A as ds.length r.length 0)) u (env.set ri (.v (.ref A))) (.rt P F1)) : VS K O F (tSeq (tAsg (tLc wi g tYes te vs) (gName ri)) u) env (.rt P F1) := fun D σ H z q =>
  show tLc wi g tYes te vs σ H (fun x H1 => gName ri x σ H1 (u D)) from mat_lc hi hz h σ H z.s H (Ex.refl _) (fun x H1 => gName ri x σ H1 (u D)) fun A as H2 hA ha nd e2 h1 h2 => by
    have nA := z.fresh hA
    have nas : ∀ a ∈ as, a ∉ O := fun a m => z.fresh (ha a m)
    have big : ∀ b, b ∈ A :: as ++ O → b ∉ O → H b = none := fun b m no => by
      rcases List.mem_append.mp m with m | m
      · rcases List.mem_cons.mp m with rfl | m
        · exact hA
        · exact ha b m
      · exact absurd m no
    have z2 := z.ex e2
    have x2 : Ex (Bs H O) (Bs H2 (A :: as ++ O)) := Bs_in ((Bs_sub H O).trans e2) fun b mb => by
      by_cases m : b ∈ O
      · exact Bs_none m
      · rw [Bs_out m]; exact big b mb m
    refine hu A as nA nas nd D _ H2 ⟨fun b mb => ?_, (z.sg.ex x2).setV ri, F.st _ _ e2 z.as, List.replicate ds.length r, List.length_replicate, fun s hs => by rw [(List.mem_replicate.mp hs).2], ?_, h1, h2⟩ fun v d H' pd x f hv => q v d H' pd (XO.by_ fun a o na hao => x.at (fun m => ?_) (e2 _ _ hao)) f (Dt.ex (Bs_in (Bs_sub _ _) fun b m => Bs_none (List.mem_append_right _ m)) _ _ hv)
    · rcases List.mem_append.mp mb with mb | mb
      · rcases List.mem_cons.mp mb with rfl | m
        · exact ⟨_, h1, trivial⟩
        · obtain ⟨j, hj, ej⟩ := List.mem_iff_getElem.mp m
          have lj : j < (List.replicate ds.length r).length := by rw [← h2.len]; exact hj
          obtain ⟨a', ha', hb'⟩ := h2.at (List.getElem?_eq_getElem lj)
          rw [List.getElem?_eq_getElem hj, ej] at ha'
          cases ha'
          exact ⟨_, hb', trivial⟩
      · exact z2.own b mb
    · unfold psum
      rw [List.map_replicate, hr]
      have : ∀ k : Nat, (List.replicate k 0).sum = 0 := fun k => by induction k with
        | zero => rfl
        | succ k ih => rw [List.replicate_succ, List.sum_cons, ih]
      rw [this]; exact Nat.le_refl _
    · have := big a m na
      rw [hao] at this; cases this
end
end NB
end S_NbN

section S_NbD11
set_option Elab.async false
set_option linter.all false
set_option maxRecDepth 100000
set_option maxHeartbeats 4000000
set_option exponentiation.threshold 100000
namespace NB
open PySem PySem.Spec PyProof.Rows L2
local macro_rules | `(tactic| walk_at "vd") => `(tactic| repeat' (first
  | exact vd_var rfl | exact vd_int | exact vd_bl | exact va_nil | exact vba_nil | exact vt_yes
  | with_reducible apply va_cons | with_reducible apply vt_test | with_reducible apply vt_not | with_reducible apply vt_B
  | with_reducible apply vd_tup | with_reducible apply vd_cb | with_reducible apply vd_op | with_reducible apply vd_un
  | exact rd_add | exact rd_ix0 rfl | exact rd_ix1 rfl | exact rd_I0 | exact rd_B0 | exact ru_I
  | exact rg_lenT | exact rg_lenL | exact rc_abs | exact rc_gcd
  | exact Nat.le_of_ble_eq_true rfl))
local macro_rules | `(tactic| walk_at "le") => `(tactic| repeat (first | exact Le.nil | apply Le.same | apply Le.drop))
section
variable {P : Program} {w : World} {K : PySem.W.Frag} {mg : Str → Option Value} {base : Heap}

def ShowOk (shows : Pw) (w : Nat) : Prop := 0 < shows.length ∧ shows.length ≤ 10 ∧ 0 < w ∧ w ≤ 10 ∧ ∀ s ∈ shows, 0 < s.length ∧ s.length ≤ 100 ∧ ∀ c ∈ s, c < w
def PwOk (n w most : Nat) (p : Pw) : Prop := p.length = n ∧ (∀ r ∈ p, r.length = w) ∧ psum p ≤ most
def PpowU (ds : List PyData) (R : PyData → Prop) : Prop := ∃ (shows : Pw) (w most : Nat), ShowOk shows w ∧ most ≤ 10 ∧ ds = [.list (shows.map encM), .int (w : Nat), .int (most : Nat)] ∧ R = fun d => ∃ p : Pw, PwOk shows.length w most p ∧ d = encP p
theorem As.mat_mono {A : Addr} {as : List Addr} {n w i j : Nat} (h : i ≤ j) {H : Hp} : (As.mat A as n w i).p H → (As.mat A as n w j).p H := fun ⟨p, h1, h2, h3, r⟩ => ⟨p, h1, h2, Nat.le_trans h3 h, r⟩

theorem sc_law_powers : FnScope ["_law_urn", "_law_shows_here", "_law_wide", "_law_most", "_law_rows", "_law_seen", "_law_lap", "_law_at", "_law_column", "_law_own"] ["_law_urn", "_law_shows_here", "_law_wide", "_law_most"] (defScope (topS 42)) := ⟨rfl, rfl, rfl, by decide +kernel, rfl, by decide +kernel, by decide +kernel⟩
theorem cb_law_powers (W : Wd K mg) (c__law_take : Cb P w K mg base "_law_take" 1 ["_law_urn", "_law_low_here"] (spU K 1 PtakU)) (c__law_of : Cb P w K mg base "_law_of" 2 ["_law_urn", "_law_some"] (spU K 1 PofU)) : Cb P w K mg base "_law_powers" 3 ["_law_urn", "_law_shows_here", "_law_wide", "_law_most"] (spU K 21 PpowU) := by
  refine mk_cb W 30 (i := 42) rfl sc_law_powers (fun _ _ _ _ _ _ us hl => match us, hl with | [_, _, _, _], _ => rfl) (fun vs H Q E h => ?_) fun f cdv A outer s H vs Q E hr h => ⟨_, PSs.nox (
    (pss_cons (ps_setLc (i := 4) (own := [("_law_seen", 5)]) rfl sc_law_powers.nd rfl rfl (sw_true rfl rfl rfl (by decide +kernel)) (pi_seqX (K := K) rfl (pv 1)) (blkOk_by (N := ["_law_urn", "_law_shows_here", "_law_wide", "_law_most", "_law_rows", "_law_seen", "_law_lap", "_law_at", "_law_column", "_law_own"]) (sc := defScope (topS 42)) (by decide +kernel)) (fun _ _ _ _ _ => (pg_name (i := 5) sc_law_powers.nd rfl (by first | exact Or.inl rfl | exact Or.inr rfl))) (fun _ _ _ _ _ => pts_nil) (fun _ _ _ _ _ => (pe_op (op_mulX (K := K) rfl) (pe_lst (pa_cons pe_int pa_nil)) (pv 2))))
  (pss_cons (ps_for PassesOwn.never rfl (pi_range1 rfl (W.free "range") (pa_cons (pe_cb c__law_take (hr.mono (by omega)) rfl (pa_cons (pv 0) (pa_cons (pe_op (op_addX (K := K) rfl) (pv 3) pe_int) pa_nil))) pa_nil)) (pg_name (i := 6) sc_law_powers.nd rfl (by first | exact Or.inl rfl | exact Or.inr rfl)) (pss_cons (ps_set (i := 7) sc_law_powers.nd rfl (by first | exact Or.inl rfl | exact Or.inr rfl) (pe_cb c__law_take (hr.mono (by omega)) rfl (pa_cons (pv 0) (pa_cons (pe_callB (cr_lenX (K := K) rfl) (by rfl) (W.free "len") (by decide +kernel) (pa_cons (pv 1) pa_nil)) pa_nil))))
  (pss_cons (ps_set (i := 8) sc_law_powers.nd rfl (by first | exact Or.inl rfl | exact Or.inr rfl) (pe_cb c__law_of (hr.mono (by omega)) rfl (pa_cons (pv 0) (pa_cons (pe_callTy (cr_listX (K := K) rfl) (by rfl) (W.free "list") (by decide +kernel) (pa_cons (pe_ix (ix_seqX (K := K) rfl) (pv 1) (pv 7) (fun _ _ => rfl)) pa_nil)) pa_nil))))
  (pss_one (ps_asg (pe_op (op_addX (K := K) rfl) (pe_ix (ix_seqX (K := K) rfl) (pe_ix (ix_seqX (K := K) rfl) (pv 4) (pv 7) (fun _ _ => rfl)) (pv 8) (fun _ _ => rfl)) pe_int) (pg_sub (pe_ix (ix_seqX (K := K) rfl) (pv 4) (pv 7) (fun _ _ => rfl)) (pv 8) set_list))))))
  (pss_one (ps_ret (pe_callTy (cr_tupX (K := K) rfl) (by rfl) (W.free "tuple") (by decide +kernel) (pa_cons (pe_lc (own := [("_law_own", 9)]) rfl sc_law_powers.nd (pi_seqX (K := K) rfl (pv 4)) (blkOk_by (N := ["_law_urn", "_law_shows_here", "_law_wide", "_law_most", "_law_rows", "_law_seen", "_law_lap", "_law_at", "_law_column", "_law_own"]) (sc := defScope (topS 42)) (by decide +kernel)) (fun _ _ _ _ _ => (pg_name (i := 9) sc_law_powers.nd rfl (by first | exact Or.inl rfl | exact Or.inr rfl))) (fun _ _ _ _ _ => pts_nil) (fun _ _ _ _ _ => (pe_callTy (cr_tupX (K := K) rfl) (by rfl) (W.free "tuple") (by decide +kernel) (pa_cons (pv 9) pa_nil)))) pa_nil))))))), body_U (fun O F U m ds R p hU hm hF hN => ?_) h⟩
  · obtain ⟨O, U, m, ws, ds, R, p, rfl, _, _, _, _, hd, _⟩ := h
    rw [List.length_cons, hd.len]
    obtain ⟨shows, w, most, s0, mo, rfl, rfl⟩ := p
    rfl
  · obtain ⟨shows, w, most, ⟨s0, s1, w0, w1, hs⟩, mo, rfl, rfl⟩ := p
    have e0 : ∀ k : Nat, (List.replicate k [PyData.int 0]).flatten = (List.replicate k 0).map fun n : Nat => PyData.int (n : Nat) := fun k => by
      induction k with
      | zero => rfl
      | succ k ih => rw [List.replicate_succ, List.flatten_cons, ih, List.replicate_succ]; rfl
    refine vs_newM (r := List.replicate w 0) (ds := shows.map encM) (vi_seqL (vb_var rfl)) (by rw [List.length_map]; omega) (fun d hd => ⟨_, _, gd_name, by simp, (vn_rep (n := w) (VN.dat (vn_lst (va_cons (vd_int (i := 0)) va_nil) (Nat.le_of_ble_eq_true rfl))) (vd_var rfl) (by omega) (by decide)).is (e0 w)⟩) (by clear hs w1 w0; induction w with | zero => rfl | succ k ih => rw [List.replicate_succ, List.sum_cons, ih]) fun A as nA nas nd => ?_
    have AU : A ≠ U := fun e => nA (e ▸ hU)
    have asU : U ∉ as := fun h => nas U h hU
    have hU2 : U ∈ A :: as ++ O := List.mem_append_right _ hU
    have ln : (shows.map encM).length = shows.length := List.length_map _
    have lw : (List.replicate w 0).length = w := List.length_replicate
    rw [ln, lw]
    have offM : ∀ i, (F.and (As.mat A as shows.length w i)).Off U := fun i => As.off_and hF (As.off_mat AU asU)
    have asn : ∀ a ∈ as, a ≠ U := fun a m e => asU (e ▸ m)
    let env1 : List Sl := [.v (.ref U), .d (.list (shows.map encM)), .d (.int (w : Nat)), .d (.int (most : Nat)), .v (.ref A), .no, .no, .no, .no, .no]
    have hm' : m + 21 ≤ 1099511627776 := hm
    refine VS.pre (F1 := (F.and (.mat A as shows.length w 0)).and (.urn K U m)) ?_ fun H h => ⟨⟨h.1.1, h.2⟩, h.1.2⟩
    refine vs_seq (vs_forE (F2 := (F.and (.mat A as shows.length w most)).and (.urn K U (m + 21))) (n := fun k => k ≤ most) (I := fun i e => e = env1) (Fi := fun i => (F.and (.mat A as shows.length w i)).and (.urn K U (m + 1 + (1 + 1) * i)))
      (vei_rng1 (PN := fun k => k ≤ most) ((vua_cons (vu_call (P := fun d => ∃ k : Nat, k ≤ most ∧ d = .int (k : Nat)) rfl (vua_cons (vu_b (vb_im (vd_op (vd_var rfl) vd_int rd_add) rfl)) vua_nil) (fun ds h => ?_) (show m + 1 ≤ LIM from by unfold LIM; omega)) vua_nil) _ _ hU2 (offM 0)) fun ds h => ?_) ⟨env1, rfl, Le.refl _⟩ (fun H h => h) (fun ds h => ?_) (fun i d e ds hp hd he => ?_) fun k hk H h => ⟨⟨h.1.1, As.mat_mono hk h.1.2⟩, As.urn_mono (by omega) h.2⟩) fun e he => ?_
    · obtain ⟨d, es, rfl, rfl, rfl⟩ := h
      refine ⟨_, ⟨most + 1, by omega, by omega, rfl, rfl⟩, fun d hd => ?_⟩
      obtain ⟨n, hn, rfl⟩ := hd
      exact ⟨n, by omega, rfl⟩
    · obtain ⟨d, es, rfl, ⟨k, hk, rfl⟩, rfl⟩ := h
      exact ⟨k, rfl, by omega, hk⟩
    · obtain ⟨n, hn, rfl⟩ := h
      rw [List.length_map, List.length_range]
      exact hn
    · subst he
      obtain ⟨n, hn, rfl⟩ := hp
      have hi : i < n := by
        have := (List.getElem?_eq_some_iff.mp hd).1
        rw [List.length_map, List.length_range] at this; exact this
      refine ⟨_, _, gd_name, ?_⟩
      refine vs_seq (vs_asgE (I := fun e => ∃ a : Nat, a < shows.length ∧ e = [.v (.ref U), .d (.list (shows.map encM)), .d (.int (w : Nat)), .d (.int (most : Nat)), .v (.ref A), .no, .d d, .d (.int (a : Nat)), .no, .no]) (vu_call (P := fun d => ∃ a : Nat, a < shows.length ∧ d = .int (a : Nat)) rfl (vua_cons (vu_b (vb_im ((vd_cb (va_cons (vd_var rfl) va_nil) rg_lenL).is (by rw [List.length_map])) rfl)) vua_nil) (fun ds h => ?_) (by unfold LIM; omega) _ _ hU2 (offM i)) fun d' hd' => ?_) fun e he => ?_
      · obtain ⟨d, es, rfl, rfl, rfl⟩ := h
        exact ⟨_, ⟨shows.length, s0, by omega, rfl, rfl⟩, fun d hd => hd⟩
      · obtain ⟨a, ha, rfl⟩ := hd'
        exact ⟨_, _, gd_name, a, ha, rfl⟩
      · obtain ⟨a, ha, rfl⟩ := he
        obtain ⟨q0, q1, q2⟩ := hs _ (List.getElem_mem ha)
        refine vs_seq (vs_asgE (I := fun e => ∃ c : Nat, c < w ∧ e = [.v (.ref U), .d (.list (shows.map encM)), .d (.int (w : Nat)), .d (.int (most : Nat)), .v (.ref A), .no, .d d, .d (.int (a : Nat)), .d (.int (c : Nat)), .no]) (vu_call (P := fun d => ∃ c : Nat, c < w ∧ d = .int (c : Nat)) rfl (vua_cons (vu_b (vb_new (ds := (shows[a]).map fun n : Nat => .int (n : Nat)) (vn_cb (va_cons (vd_op (vd_var rfl) (vd_var rfl) (rd_ixL (d := encM shows[a]) (by rw [List.getElem?_map, List.getElem?_eq_getElem ha]; rfl))) va_nil) rg_listT) (imA_map _ (fun _ => rfl) _))) vua_nil) (fun ds h => ?_) (by unfold LIM; omega) _ _ hU2 (offM i)) fun d' hd' => ?_) fun e he => ?_
        · obtain ⟨d, es, rfl, rfl, rfl⟩ := h
          refine ⟨_, ⟨true, (shows[a]).map fun n : Nat => .int (n : Nat), by rw [List.length_map]; exact q0, by rw [List.length_map]; omega, imA_map _ (fun _ => rfl) _, rfl, rfl⟩, fun d hd => ?_⟩
          obtain ⟨c, hc, rfl⟩ := List.mem_map.mp hd
          exact ⟨c, q2 c hc, rfl⟩
        · obtain ⟨c, hc, rfl⟩ := hd'
          exact ⟨_, _, gd_name, c, hc, rfl⟩
        · obtain ⟨c, hc, rfl⟩ := he
          refine (vs_bump (at_ := a) (c := c) rfl rfl rfl ha hc (fun b m => List.mem_append_left _ (List.mem_cons_of_mem _ m)) nd (fun b m => hN b (nas b m)) (fun b m => As.off_urn (fun e => asn b m e.symm)) (by decide) (by decide)).le (.nx (fun e he => ⟨env1, rfl, ?_⟩) fun H h => ⟨h.1, As.urn_mono (by omega) h.2⟩)
          rw [he]
          show Le _ [_, _, _, _, _, _, _, _, _, _]
          walk_at "le"
    · obtain ⟨k, _, rfl⟩ := he
      refine (vs_retM (ri := 4) rfl fun p p1 p2 p3 => ⟨encP p, ⟨p, ⟨p1, p2, p3⟩, rfl⟩, im_encP p, ?_⟩).le (.rt (fun d h => h) fun H h => h)
      exact vd_cb (va_cons (VN.dat (vn_lc0 (ds := p.map encL) (os := p.map encM) (vi0_seqL (vd_var rfl)) (by rw [List.length_map]; omega) (lc_map fun r hr => ⟨_, _, gd_name, by simp, vt_yes, vb_im (d := encM r) (vd_cb (va_cons (vd_var (d := encL r) rfl) va_nil) rg_tupL) (im_encM r)⟩))) va_nil) rg_tupL
end
end NB
end S_NbD11

section S_NbD12
set_option Elab.async false
set_option linter.all false
set_option maxRecDepth 100000
set_option maxHeartbeats 4000000
set_option exponentiation.threshold 100000
namespace NB
open PySem PySem.Spec PyProof.Rows L2
open Evl (Ex)
local macro_rules | `(tactic| walk_at "vd") => `(tactic| repeat' (first
  | exact vd_var rfl | exact vd_int | exact vd_bl | exact va_nil | exact vba_nil | exact vt_yes
  | with_reducible apply va_cons | with_reducible apply vt_test | with_reducible apply vt_not | with_reducible apply vt_B
  | with_reducible apply vd_tup | with_reducible apply vd_cb | with_reducible apply vd_op | with_reducible apply vd_un
  | exact rd_add | exact rd_ix0 rfl | exact rd_ix1 rfl | exact rd_I0 | exact rd_B0 | exact ru_I
  | exact rg_lenT | exact rg_lenL | exact rc_abs | exact rc_gcd
  | exact Nat.le_of_ble_eq_true rfl))
local macro_rules | `(tactic| walk_at "le") => `(tactic| repeat (first | exact Le.nil | apply Le.same | apply Le.drop))
section
variable {P : Program} {w : World} {K : PySem.W.Frag} {mg : Str → Option Value} {base : Heap}

section
variable {K : PySem.W.Frag} {U : Addr} {m m1 m2 k : Nat} {O : List Addr} {F F0 F1 F2 G : As} {env env' : List Sl} {te : TE} {tA : TA} {g : L2.TG} {wi : TI} {t u : TS} {r : Rs} {P P' : PyData → Prop} {PA : List PyData → Prop} {E : XK} {PS : List PyData → PyData → Prop} {PN : List PyData → List PyData → Prop}
theorem ve_callD (h : VEA K O F tA env PA F1) (hp : ∀ ds, PA ds → ∃ d, PS ds d ∧ P d ∧ im d = true) : VE K O F (tCall (spD K PS) [] E tA) env P F1 := fun σ H z Q q =>
  h σ H z _ fun xs ds H1 p x1 z1 hx => by
    obtain ⟨d, ps, pd, mm⟩ := hp ds p
    rw [List.append_nil]
    exact ⟨ds, d, ps, DtA.ex (Bs_sub _ _) _ _ hx, fun v H3 e3 hv => q v d H3 pd (x1.trans (XO.of e3)) (z1.ex e3) (Dt.tk (z1.ex e3).tkB _ _ mm hv)⟩
theorem ve_callO {PS : List PyData → PyData → Prop} (h : VEA K O F tA env PA F1) (hp : ∀ ds, PA ds → ∃ d, PS ds d ∧ P d) : VE K O F (tCall (spO K PS) [] E tA) env P F1 := fun σ H z Q q =>
  h σ H z _ fun xs ds H1 p x1 z1 hx => by
    obtain ⟨d, ps, pd⟩ := hp ds p
    rw [List.append_nil]
    exact ⟨O, ds, d, ps, z1.own, hx, fun v H3 e3 hv => q v d H3 pd (x1.trans (XO.of e3)) (z1.ex e3) hv⟩
theorem ex_map {α : Type} {f : α → PyData} {q : α → Prop} : ∀ {os : List PyData}, (∀ x ∈ os, ∃ y, q y ∧ x = f y) → ∃ ys : List α, os = ys.map f ∧ ∀ y ∈ ys, q y
  | [], _ => ⟨[], rfl, fun y hy => (by cases hy)⟩
  | x :: os, h => by
    obtain ⟨y, hy, rfl⟩ := h x List.mem_cons_self
    obtain ⟨ys, rfl, h2⟩ := ex_map fun z hz => h z (List.mem_cons_of_mem _ hz)
    exact ⟨y :: ys, rfl, fun z hz => by
      rcases List.mem_cons.mp hz with rfl | hz
      · exact hy
      · exact h2 z hz⟩
/-! statements whose ends are coupled -/
variable {ι : Type} {J : ι → Prop} {Ee : ι → List Sl} {FF FF2 : ι → As}
def VSC (K : PySem.W.Frag) (O : List Addr) (F : As) (t : TS) (env : List Sl) (J : ι → Prop) (Ee : ι → List Sl) (FF : ι → As) : Prop := ∀ D σ H, Zs K O F env σ H → (∀ x σ' H', J x → XO O H H' → Zs K O (FF x) (Ee x) σ' H' → D.nx σ' H') → t D σ H
theorem vsc_of {I : List Sl → Prop} (h : VS K O F t env (.nx I F1)) (hx : ∀ e, I e → ∃ x, J x ∧ Le e (Ee x) ∧ ∀ H, F1.p H → (FF x).p H) : VSC K O F t env J Ee FF := fun D σ H z q => h D σ H z fun e σ' H' he x z' => by
  obtain ⟨y, jy, l, hf⟩ := hx e he
  exact q y σ' H' jy x ⟨z'.own, z'.sg.le l, hf _ z'.as⟩
theorem vsc_seqL {I : List Sl → Prop} (h1 : VS K O F t env (.nx I F1)) (h2 : ∀ e, I e → VSC K O F1 u e J Ee FF) : VSC K O F (tSeq t u) env J Ee FF := fun D σ H z q =>
  h1 _ σ H z fun env' σ' H' i x z' => h2 env' i D σ' H' z' fun y σ2 H2 jy x2 z2 => q y σ2 H2 jy (x.trans x2) z2
theorem vsc_seq (h : VSC K O F t env J Ee FF) (hu : ∀ x, J x → VS K O (FF x) u (Ee x) r) : VS K O F (tSeq t u) env r := fun D σ H z q => h _ σ H z fun x σ' H' jx xo z' => hu x jx D σ' H' z' (Rs.ok_mono xo q)
theorem vsc_for {tb : TS} (J : Nat → ι → Prop) (FF : Nat → ι → As) {x0 : ι} (hi : VEI K O F wi env PA F1) (h0 : J 0 x0) (l0 : Le env (Ee x0)) (hF : ∀ H, F1.p H → (FF 0 x0).p H)
    (hs : ∀ i d x ds, PA ds → ds[i]? = some d → J i x → ∃ e2 is, GD K g (Ee x) d e2 is ∧ VSC K O (FF i x) tb e2 (J (i + 1)) Ee (FF (i + 1))) (hq : ∀ k ds x H, PA ds → k = ds.length → (FF k x).p H → (FF2 x).p H) :
    VSC K O F (tFor wi g tb) env (fun x => ∃ ds, PA ds ∧ J ds.length x) Ee FF2 := fun D σ H z q =>
  hi σ H z _ fun Jt ds H2 p x2 z2 w => by
    refine for_it w (fun i σ' H' => XO O H2 H' ∧ ∃ x, J i x ∧ Zs K O (FF i x) (Ee x) σ' H') ⟨XO.refl _ _, x0, h0, z2.own, z2.sg.le l0, hF _ z2.as⟩ (fun i σ' H' _ p => Ex.trans p.1 (Bs_sub _ _)) (fun i x σ' H1 H1' hi' p' y => ?_) (fun σ' H' p' => ?_)
    · obtain ⟨p1, e, pe, pz⟩ := p'
      obtain ⟨y1, d, y2, y3⟩ := y
      obtain ⟨ee, is, g1, g2⟩ := hs i d e ds p y2 pe
      have pz' := pz.ex y1
      refine g1 _ σ' x H1' pz'.sg (Bs_sub _ _) (y3 _ (Ex.trans p1 (Bs_mono y1)) (pz.bok y1).new) _ fun σ2 s2 _ => ?_
      exact g2 _ σ2 H1' ⟨pz'.own, s2, pz'.as⟩ fun x' σ'' H'' i' x'' z' => ⟨(p1.trans (XO.of y1)).trans x'', x', i', z'⟩
    · obtain ⟨p1, x, pe, pz⟩ := p'
      exact q x σ' H' ⟨ds, p, pe⟩ (x2.trans p1) ⟨pz.own, pz.sg, hq _ ds x _ p rfl pz.as⟩
end
section
variable {P : Program} {w : World} {K : PySem.W.Frag} {κ ν : Type} {enc : κ → PyData} {E : KeyE enc} {encv : ν → PyData} {O : List Addr} {F : As} {env : List Sl} {u : TS} {r : Rs} {i j : Nat} {c : Int}
theorem vs_parD (hr : ∀ a, a ∉ O → ∃ r', RsNew K a r' r ∧ VS K (a :: O) (F.and (.dc P w K enc E encv a ([] : List (κ × ν)))) u ((env.set i (.v (.ref a))).set j (.d (.int c))) r') : VS K O F (tSeq (tPar i j (tCons (tDcNew P w K enc) (tCons (tC (.int c)) tNil))) u) env r := fun D σ H z q p H' hp hk hd => by
  obtain ⟨r', l, hu⟩ := hr p (z.fresh hp)
  have e2 : Ex H H' := fun b o h => by rw [hk b (ne_of_none h hp)]; exact h
  have x2 : Ex (Bs H O) (Bs H' (p :: O)) := Bs_in ((Bs_sub H O).trans e2) fun b mb => by
    rcases List.mem_cons.mp mb with w | w
    · subst w
      cases q : Bs H O b with
      | none => rfl
      | some u => rw [Bs_sub H O b u q] at hp; cases hp
    · exact Bs_none w
  refine ⟨_, _, rfl, hu D _ H' ⟨fun b mb => ?_, ((z.sg.ex x2).setV i).setD j (.int c), As.ex_ e2 z.as, [], hd, .nil⟩ (Rs.ok_less hp (z.fresh hp) e2 l q)⟩
  rcases List.mem_cons.mp mb with w | w
  · subst w; exact hd.mut
  · exact (z.ex e2).own b w
end
def FormOk (n w : Nat) (f : Fm) : Prop := ∃ ps : Fm, ps.length = 3 ∧ (∀ x ∈ ps, PwOk n w 3 x.1 ∧ x.2 ∈ ratios) ∧ f = gath ps
theorem ratios_bd : ∀ q ∈ ratios, Bd 2 q := fun q hq => by
  unfold ratios at hq
  simp only [List.mem_cons, List.not_mem_nil, or_false] at hq
  rcases hq with h | h | h | h | h | h | h | h | h <;> rw [h] <;> exact ⟨by decide, by decide⟩
def PshapU (ds : List PyData) (R : PyData → Prop) : Prop := ∃ (shows : Pw) (w : Nat), ShowOk shows w ∧ ds = [.list (shows.map encM), .int (w : Nat), .int 3, .int 3] ∧ R = fun d => ∃ f : Fm, FormOk shows.length w f ∧ d = encF f

theorem sc_law_shape : FnScope ["_law_urn", "_law_shows_here", "_law_wide", "_law_many", "_law_most", "_law_lap"] ["_law_urn", "_law_shows_here", "_law_wide", "_law_many", "_law_most"] (defScope (topS 43)) := ⟨rfl, rfl, rfl, by decide +kernel, rfl, by decide +kernel, by decide +kernel⟩
theorem cb_law_shape (W : Wd K mg) (c__law_gathered : Cb P w K mg base "_law_gathered" 3 ["_law_pairs"] (spD K PgathD)) (c__law_powers : Cb P w K mg base "_law_powers" 3 ["_law_urn", "_law_shows_here", "_law_wide", "_law_most"] (spU K 21 PpowU)) (c__law_ratio : Cb P w K mg base "_law_ratio" 3 ["_law_urn"] (spU K 1 PratU)) : Cb P w K mg base "_law_shape" 4 ["_law_urn", "_law_shows_here", "_law_wide", "_law_many", "_law_most"] (spU K 66 PshapU) := by
  refine mk_cb W 31 (i := 43) rfl sc_law_shape (fun _ _ _ _ _ _ us hl => match us, hl with | [_, _, _, _, _], _ => rfl) (fun vs H Q E h => ?_) fun f cdv A outer s H vs Q E hr h => ⟨_, PSs.nox (
    (pss_one (ps_ret (pe_cb c__law_gathered (hr.mono (by omega)) rfl (pa_cons (pe_lc (own := [("_law_lap", 5)]) rfl sc_law_shape.nd (pi_range1 rfl (W.free "range") (pa_cons (pv 3) pa_nil)) (blkOk_by (N := ["_law_urn", "_law_shows_here", "_law_wide", "_law_many", "_law_most", "_law_lap"]) (sc := defScope (topS 43)) (by decide +kernel)) (fun _ _ _ _ _ => (pg_name (i := 5) sc_law_shape.nd rfl (by first | exact Or.inl rfl | exact Or.inr rfl))) (fun _ _ _ _ _ => pts_nil) (fun _ _ _ _ _ => (pe_tup (pa_cons (pe_cb c__law_powers (hr.mono (by omega)) rfl (pa_cons (pv 0) (pa_cons (pv 1) (pa_cons (pv 2) (pa_cons (pv 4) pa_nil))))) (pa_cons (pe_cb c__law_ratio (hr.mono (by omega)) rfl (pa_cons (pv 0) pa_nil)) pa_nil))))) pa_nil))))), body_U (fun O F U m ds R p hU hm hF hN => ?_) h⟩
  · obtain ⟨O, U, m, ws, ds, R, p, rfl, _, _, _, _, hd, _⟩ := h
    rw [List.length_cons, hd.len]
    obtain ⟨shows, w, so, rfl, rfl⟩ := p
    rfl
  · obtain ⟨shows, w, so, rfl, rfl⟩ := p
    have hm' : m + 66 ≤ 1099511627776 := hm
    refine vs_retE (ve_callD (PS := PgathD) (PA := fun ds => ∃ ps : Fm, ps.length = 3 ∧ (∀ x ∈ ps, PwOk shows.length w 3 x.1 ∧ x.2 ∈ ratios) ∧ ds = [.list (ps.map encF1)]) (VEA.le (vea_cons (ve_lc (m2 := m + 66) (PA := (· = (List.range 3).map fun i => PyData.int (i : Nat))) (P := fun d => ∃ x : Pw × Rat, (PwOk shows.length w 3 x.1 ∧ x.2 ∈ ratios) ∧ d = encF1 x) (fun i => m + 22 * i) hU hF (vei_p (VI.z ?_)) (fun ds h => ?_) (fun d h => ?_) fun i d ds h hd => ⟨_, _, gd_name, by simp, ?_⟩) vea_nil) fun ds h => ?_) fun ds h => ?_)
    · exact vi_rng1 (K := K) (j := 3) (va_cons (vd_var rfl) va_nil) (by omega) (by omega)
    · subst h
      exact ⟨by simp, by simp⟩
    · obtain ⟨x, _, rfl⟩ := h
      exact im_encF1 x
    · refine VU.le (vu_tup (vua_cons (vu_call (P := fun d => ∃ p : Pw, PwOk shows.length w 3 p ∧ d = encP p) rfl (vua_b (ds := [.list (shows.map encM), .int (w : Nat), .int 3]) (vba_cons (vb_var rfl) (vba_cons (vb_var rfl) (vba_cons (vb_var rfl) vba_nil)))) (fun ds h => ?_) ?_) (vua_cons (vu_call (P := fun d => ∃ q, q ∈ ratios ∧ d = encQ q) rfl vua_nil (fun ds h => ?_) ?_) vua_nil)) fun ds h => ?_) (fun d h => ?_) (by omega : m + 22 * i + 21 + 1 ≤ m + 22 * (i + 1))
      · subst h
        exact ⟨_, ⟨shows, w, 3, so, by omega, rfl, rfl⟩, fun d hd => hd⟩
      · subst h
        have : i < 3 := by
          have := (List.getElem?_eq_some_iff.mp hd).1
          simpa using this
        unfold LIM
        omega
      · subst h
        exact ⟨_, ⟨rfl, rfl⟩, fun d hd => hd⟩
      · subst h
        have : i < 3 := by
          have := (List.getElem?_eq_some_iff.mp hd).1
          simpa using this
        unfold LIM
        omega
      · obtain ⟨d, es, rfl, _, d2, es2, rfl, _, rfl⟩ := h
        exact Nat.le_of_ble_eq_true rfl
      · obtain ⟨ds, rfl, d, es, rfl, ⟨p, hp, rfl⟩, d2, es2, rfl, ⟨q, hq, rfl⟩, rfl⟩ := h
        exact ⟨(p, q), ⟨hp, hq⟩, rfl⟩
    · obtain ⟨d, es, rfl, ⟨os, dd, rfl, rfl, hl, ho⟩, rfl⟩ := h
      obtain ⟨ps, rfl, hps⟩ := ex_map ho
      refine ⟨ps, ?_, hps, rfl⟩
      rw [List.length_map] at hl
      simpa using hl
    · obtain ⟨ps, hl, hps, rfl⟩ := h
      exact ⟨_, ⟨2, ps, fun x hx => ratios_bd _ (hps x hx).2, by rw [hl]; decide, by rw [hl]; decide, by decide, rfl, rfl⟩, ⟨_, ⟨ps, hl, hps, rfl⟩, rfl⟩, im_encF _⟩
end
end NB
end S_NbD12

section S_NbD13
set_option Elab.async false
set_option linter.all false
set_option maxRecDepth 100000
set_option maxHeartbeats 4000000
set_option exponentiation.threshold 100000
namespace NB
open PySem PySem.Spec PyProof.Rows L2
open Evl (Ex)
local macro_rules | `(tactic| walk_at "vd") => `(tactic| repeat' (first
  | exact vd_var rfl | exact vd_int | exact vd_bl | exact va_nil | exact vba_nil | exact vt_yes
  | with_reducible apply va_cons | with_reducible apply vt_test | with_reducible apply vt_not | with_reducible apply vt_B
  | with_reducible apply vd_tup | with_reducible apply vd_cb | with_reducible apply vd_op | with_reducible apply vd_un
  | exact rd_add | exact rd_ix0 rfl | exact rd_ix1 rfl | exact rd_I0 | exact rd_B0 | exact ru_I
  | exact rg_lenT | exact rg_lenL | exact rc_abs | exact rc_gcd
  | exact Nat.le_of_ble_eq_true rfl))
local macro_rules | `(tactic| walk_at "le") => `(tactic| repeat (first | exact Le.nil | apply Le.same | apply Le.drop))
section
variable {P : Program} {w : World} {K : PySem.W.Frag} {mg : Str → Option Value} {base : Heap}

def pool (n : Nat) : Pw := if n = 1 then [[0]] else [[0], [0, 1], [1]]
abbrev Kd : Type := List (List Nat × Nat)
def gbs (n : Nat) : List Nat := if 0 < n then (List.range n).map (· + 1) else [0]
def kstep (n : Nat) (s : Kd × Nat) : List (Kd × Nat) := (pool n).flatMap fun seen => (gbs s.2).map fun b => (put s.1 seen ((lk s.1 seen).getD 0 + b), s.2 - b)
def kst (n : Nat) : Nat → List (Kd × Nat)
  | 0 => [([], 3)]
  | i + 1 => (kst n i).flatMap (kstep n)
def kfin (l : Kd) : Kd := ((srt encM (l.map (·.1))).filter fun k => decide (0 < (lk l k).getD 0)).map fun k => (k, (lk l k).getD 0)
def encn (n : Nat) : PyData := .int (n : Nat)
def PgroU (ds : List PyData) (R : PyData → Prop) : Prop := ∃ n : Nat, 0 < n ∧ n ≤ 2 ∧ ds = [.int (n : Nat)] ∧ R = fun d => ∃ (i : Nat) (s : Kd × Nat), 1 ≤ i ∧ i ≤ 2 ∧ s ∈ kst n i ∧ d = encG (kfin s.1)
theorem kst_len {n : Nat} : ∀ i, ∀ s ∈ kst n i, s.1.length ≤ i ∧ s.2 ≤ 3
  | 0, s, h => by rw [List.mem_singleton.mp h]; exact ⟨Nat.le_refl _, Nat.le_refl _⟩
  | i + 1, s, h => by
    obtain ⟨t, ht, h⟩ := List.mem_flatMap.mp h
    obtain ⟨h1, h2⟩ := kst_len i t ht
    obtain ⟨k, _, h⟩ := List.mem_flatMap.mp h
    obtain ⟨b, _, rfl⟩ := List.mem_map.mp h
    have := len_put t.1 k ((lk t.1 k).getD 0 + b)
    refine ⟨?_, ?_⟩
    · show (put t.1 k _).length ≤ i + 1
      omega
    · show t.2 - b ≤ 3
      omega
theorem gbs_le {n b : Nat} (h : b ∈ gbs n) : b ≤ n := by
  unfold gbs at h
  split at h
  · obtain ⟨k, hk, rfl⟩ := List.mem_map.mp h
    rw [List.mem_range] at hk; omega
  · rw [List.mem_singleton.mp h]; omega


theorem im_encn (n : Nat) : im (encn n) = true := rfl
theorem As.off_dc {P : Program} {w : World} {K : PySem.W.Frag} {κ ν : Type} {enc : κ → PyData} {E : KeyE enc} {encv : ν → PyData} {a b : Addr} {l : List (κ × ν)} (h : a ≠ b) (mv : ∀ x, im (encv x) = true) : (As.dc P w K enc E encv a l).Off b := fun H H' k t ⟨kvs, h1, h2⟩ => ⟨kvs, h1.tk E t fun u hu => by rw [k a h]; exact hu, h2.tk mv t⟩
section
variable {P : Program} {w : World} {K : PySem.W.Frag} {κ ν : Type} {enc : κ → PyData} {E : KeyE enc} {encv : ν → PyData} {O : List Addr} {F : As} {env : List Sl} {u : TS} {r : Rs} {i j : Nat} {c : Int}
theorem vs_tupD (hr : ∀ a, a ∉ O → ∃ r', RsNew K a r' r ∧ VS K (a :: O) (F.and (.dc P w K enc E encv a ([] : List (κ × ν)))) u ((env.set i (.v (.ref a))).set j (.d (.int c))) r') : VS K O F (tSeq (tAsg (tTup (tCons (tDcNew P w K enc) (tCons (tC (.int c)) tNil))) (gTup K 2 (gCons (gName i) (gCons (gName j) gNil)))) u) env r := fun D σ H z q p H' hp hk hd => by
  obtain ⟨r', l, hu⟩ := hr p (z.fresh hp)
  refine ⟨Nat.le_of_ble_eq_true rfl, fun t ht => ⟨t, [.ref p, .int c], rfl, SqT.of upd_same, rfl, _, _, rfl, _, _, rfl, rfl, ?_⟩⟩
  have e1 : Ex H H' := fun b o h => by rw [hk b (ne_of_none h hp)]; exact h
  have e3 : Ex H' (upd H' t (.tup [.ref p, .int c])) := Ex.new ht
  have e2 := e1.trans e3
  have hd2 := hd.ex E e3
  have x2 : Ex (Bs H O) (Bs (upd H' t (.tup [.ref p, .int c])) (p :: O)) := Bs_in ((Bs_sub H O).trans e2) fun b mb => by
    rcases List.mem_cons.mp mb with w | w
    · subst w
      cases q : Bs H O b with
      | none => rfl
      | some u => rw [Bs_sub H O b u q] at hp; cases hp
    · exact Bs_none w
  refine hu D _ _ ⟨fun b mb => ?_, ((z.sg.ex x2).setV i).setD j (.int c), As.ex_ e2 z.as, [], hd2, .nil⟩ (Rs.ok_less hp (z.fresh hp) e2 l q)
  rcases List.mem_cons.mp mb with w | w
  · subst w; exact hd2.mut
  · exact (z.ex e2).own b w
end
theorem RDD.is {K : PySem.W.Frag} {r : R2} {a b d d' : PyData} (h : RDD K r a b d) (e : d = d') : RDD K r a b d' := e ▸ h

theorem sc_law_groups : FnScope ["_law_urn", "_law_wide", "_law_pool", "_law_found", "_law_left", "_law_lap", "_law_seen", "_law_many"] ["_law_urn", "_law_wide"] (defScope (topS 45)) := ⟨rfl, rfl, rfl, by decide +kernel, rfl, by decide +kernel, by decide +kernel⟩
theorem cb_law_groups (W : Wd K mg) (c__law_of : Cb P w K mg base "_law_of" 2 ["_law_urn", "_law_some"] (spU K 1 PofU)) (c__law_take : Cb P w K mg base "_law_take" 1 ["_law_urn", "_law_low_here"] (spU K 1 PtakU)) : Cb P w K mg base "_law_groups" 4 ["_law_urn", "_law_wide"] (spU K 5 PgroU) := by
  refine mk_cb W 33 (i := 45) rfl sc_law_groups (fun _ _ _ _ _ _ us hl => match us, hl with | [_, _], _ => rfl) (fun vs H Q E h => ?_) fun f cdv A outer s H vs Q E hr h => ⟨_, PSs.nox (
    (pss_cons (ps_set (i := 2) sc_law_groups.nd rfl (by first | exact Or.inl rfl | exact Or.inr rfl) (pe_ifExp (pt_cmpR (op_eqX (K := K) rfl hr.units) (pv 1) pe_int (nomark _)) (pe_lst (pa_cons (pe_tup (pa_cons pe_int pa_nil)) pa_nil)) (pe_lst (pa_cons (pe_tup (pa_cons pe_int pa_nil)) (pa_cons (pe_tup (pa_cons pe_int (pa_cons pe_int pa_nil))) (pa_cons (pe_tup (pa_cons pe_int pa_nil)) pa_nil))))))
  (pss_cons (ps_asg (pe_tup (pa_cons (pe_dcX (P := P) (w := w) (K := K) rfl rfl rfl (enc := encM)) (pa_cons pe_int pa_nil))) (pg_tupX (n := 2) (K := K) rfl rfl (pgs_cons (pg_name (i := 3) sc_law_groups.nd rfl (by first | exact Or.inl rfl | exact Or.inr rfl)) (pgs_cons (pg_name (i := 4) sc_law_groups.nd rfl (by first | exact Or.inl rfl | exact Or.inr rfl)) pgs_nil))))
  (pss_cons (ps_for PassesOwn.never rfl (pi_range1 rfl (W.free "range") (pa_cons (pe_op (op_addX (K := K) rfl) pe_int (pe_cb c__law_take (hr.mono (by omega)) rfl (pa_cons (pv 0) (pa_cons pe_int pa_nil)))) pa_nil)) (pg_name (i := 5) sc_law_groups.nd rfl (by first | exact Or.inl rfl | exact Or.inr rfl)) (pss_cons (ps_set (i := 6) sc_law_groups.nd rfl (by first | exact Or.inl rfl | exact Or.inr rfl) (pe_cb c__law_of (hr.mono (by omega)) rfl (pa_cons (pv 0) (pa_cons (pv 2) pa_nil))))
  (pss_cons (ps_set (i := 7) sc_law_groups.nd rfl (by first | exact Or.inl rfl | exact Or.inr rfl) (pe_ifExp (pt_cmpR op_gt (pv 4) pe_int (nomark _)) (pe_op (op_addX (K := K) rfl) pe_int (pe_cb c__law_take (hr.mono (by omega)) rfl (pa_cons (pv 0) (pa_cons (pv 4) pa_nil)))) pe_int))
  (pss_cons (ps_asg (pe_op (op_addX (K := K) rfl) (pe_dmX (P := P) (w := w) (K := K) rfl rfl rfl kM PySem.F.slot_dict_get PySem.F.type_dict_get (mt_getCX (P := P) (w := w) (K := K) rfl rfl rfl kM hr.units) (pv 3) (pa_cons (pv 6) (pa_cons pe_int pa_nil))) (pv 7)) (pg_sub (pv 3) (pv 6) (set_dcX (P := P) (w := w) (K := K) rfl rfl rfl kM hr.units)))
  (pss_one (ps_set (i := 4) sc_law_groups.nd rfl (by first | exact Or.inl rfl | exact Or.inr rfl) (pe_op op_sub (pv 4) (pv 7))))))))
  (pss_one (ps_ret (pe_callTy (cr_tupX (K := K) rfl) (by rfl) (W.free "tuple") (by decide +kernel) (pa_cons (pe_lc (own := [("_law_seen", 6)]) rfl sc_law_groups.nd (pi_listX (K := K) rfl (pe_callB (cr_sortCX (P := P) (w := w) (K := K) rfl rfl rfl kM rfl hr.units) (by rfl) (W.free "sorted") (by decide +kernel) (pa_cons (pv 3) pa_nil))) (blkOk_by (N := ["_law_urn", "_law_wide", "_law_pool", "_law_found", "_law_left", "_law_lap", "_law_seen", "_law_many"]) (sc := defScope (topS 45)) (by decide +kernel)) (fun _ _ _ _ _ => (pg_name (i := 6) sc_law_groups.nd rfl (by first | exact Or.inl rfl | exact Or.inr rfl))) (fun _ _ _ _ _ => (pts_one (pt_cmpR op_gt (pe_ix (ix_dcX (P := P) (w := w) (K := K) rfl rfl rfl kM hr.units) (pv 3) (pv 6) (fun _ _ => rfl)) pe_int (nomark _)))) (fun _ _ _ _ _ => (pe_tup (pa_cons (pv 6) (pa_cons (pe_ix (ix_dcX (P := P) (w := w) (K := K) rfl rfl rfl kM hr.units) (pv 3) (pv 6) (fun _ _ => rfl)) pa_nil))))) pa_nil)))))))), body_U (fun O F U m ds R p hU hm hF hN => ?_) h⟩
  · obtain ⟨O, U, m, ws, ds, R, p, rfl, _, _, _, _, hd, _⟩ := h
    rw [List.length_cons, hd.len]
    obtain ⟨n, n0, n1, rfl, rfl⟩ := p
    rfl
  · obtain ⟨n, n0, n1, rfl, rfl⟩ := p
    have hm' : m + 5 ≤ 1099511627776 := hm
    have mp : imA ((pool n).map encM) = true := imA_map _ im_encM _
    refine vs_seq1 (vs_asg (vb_new (ds := (pool n).map encM) (vn_if (c := decide (n = 1)) ((vt_test (vd_op (vd_var (d := .int (n : Nat)) rfl) (vd_int (i := 1)) (rd_eqD rfl rfl))).is ?_) (fun z => ?_) fun z => ?_) mp) gd_name) ?_
    · rw [eqv_int]
      exact decide_eq_decide.mpr (by omega)
    · unfold pool
      rw [if_pos (of_decide_eq_true z)]
      exact vn_lst (va_cons (vd_tup (va_cons vd_int va_nil) (Nat.le_of_ble_eq_true rfl)) va_nil) (Nat.le_of_ble_eq_true rfl)
    · unfold pool
      rw [if_neg (of_decide_eq_false z)]
      exact vn_lst (va_cons (vd_tup (va_cons vd_int va_nil) (Nat.le_of_ble_eq_true rfl)) (va_cons (vd_tup (va_cons vd_int (va_cons vd_int va_nil)) (Nat.le_of_ble_eq_true rfl)) (va_cons (vd_tup (va_cons vd_int va_nil) (Nat.le_of_ble_eq_true rfl)) va_nil))) (Nat.le_of_ble_eq_true rfl)
    refine vs_tupD (ν := Nat) (E := kM) (encv := encn) fun a ha => ⟨_, rs_rt, ?_⟩
    have hU2 : U ∈ a :: O := List.mem_cons_of_mem _ hU
    have Ua : U ≠ a := fun e => ha (e ▸ hU)
    have offD : ∀ l : Kd, (F.and (.dc P w K encM kM encn a l)).Off U := fun l => As.off_and hF (As.off_dc Ua.symm im_encn)
    have offU : ∀ k, (F.and (.urn K U k)).Off a := fun k => As.off_and (hN a ha) (As.off_urn Ua)
    refine VS.pre (F1 := (F.and (.dc P w K encM kM encn a ([] : Kd))).and (.urn K U m)) ?_ fun H h => ⟨⟨h.1.1, h.2⟩, h.1.2⟩
    refine vsc_seq (vsc_for (Ee := fun x : Kd × Nat => [.v (.ref U), .d (.int (n : Nat)), .d (.list ((pool n).map encM)), .v (.ref a), .d (.int (x.2 : Nat)), .no, .no, .no]) (FF2 := fun x => (F.and (.dc P w K encM kM encn a x.1)).and (.urn K U (m + 5))) (fun i x => x ∈ kst n i) (fun i x => (F.and (.dc P w K encM kM encn a x.1)).and (.urn K U (m + 1 + (1 + 1) * i))) (x0 := ([], 3))
      (vei_rng1 (PN := fun k => 1 ≤ k ∧ k ≤ 2) ((vua_cons (vu_op (P := fun d => ∃ k : Nat, (1 ≤ k ∧ k ≤ 2) ∧ d = .int (k : Nat)) (vu_b (vb_im (vd_int (i := 1)) rfl)) (vu_call (P := fun d => ∃ k : Nat, k < 2 ∧ d = .int (k : Nat)) rfl (vua_b (ds := [.int 2]) (vba_cons (vb_im vd_int rfl) vba_nil)) (fun ds h => ?_) (show m + 1 ≤ LIM from by unfold LIM; omega)) fun a b h1 h2 => ?_) vua_nil) _ _ hU2 (offD [])) fun ds h => ?_) (List.mem_singleton.mpr rfl) (Le.refl _) (fun H h => h) (fun i d x ds hp hd hx => ?_) fun k ds x H hp hk h => ⟨h.1, As.urn_mono ?_ h.2⟩) fun x hx => ?_
    · subst h
      exact ⟨_, ⟨2, by omega, by omega, rfl, rfl⟩, fun d hd => hd⟩
    · obtain ⟨k, hk, rfl⟩ := h2
      subst h1
      exact ⟨.int ((k + 1 : Nat) : Int), ⟨k + 1, ⟨by omega, by omega⟩, rfl⟩, rfl, RDD.is rd_add (by congr 1; omega)⟩
    · obtain ⟨d, es, rfl, ⟨k, hk, rfl⟩, rfl⟩ := h
      exact ⟨k, rfl, by omega, hk⟩
    · obtain ⟨nn, ⟨hn1, hn2⟩, rfl⟩ := hp
      have hi : i < nn := by
        have := (List.getElem?_eq_some_iff.mp hd).1
        rw [List.length_map, List.length_range] at this; exact this
      obtain ⟨l, lf⟩ := x
      obtain ⟨hl1, hl2⟩ := kst_len i _ hx
      simp only at hl1 hl2
      refine ⟨_, _, gd_name, ?_⟩
      refine vsc_seqL (vs_asgE (I := fun e => ∃ s, s ∈ pool n ∧ e = [.v (.ref U), .d (.int (n : Nat)), .d (.list ((pool n).map encM)), .v (.ref a), .d (.int (lf : Nat)), .d d, .d (encM s), .no]) (vu_call (P := fun d => ∃ s, s ∈ pool n ∧ d = encM s) rfl (vua_b (vba_cons (vb_var rfl) vba_nil)) (fun ds h => ?_) (by unfold LIM; omega) _ _ hU2 (offD l)) fun d' hd' => ?_) fun e he => ?_
      · subst h
        refine ⟨_, ⟨true, (pool n).map encM, ?_, ?_, mp, rfl, rfl⟩, fun d hd => ?_⟩
        · unfold pool; split <;> decide
        · unfold pool; split <;> decide
        · obtain ⟨s, h1, h2⟩ := List.mem_map.mp hd
          exact ⟨s, h1, h2.symm⟩
      · obtain ⟨s, hs, rfl⟩ := hd'
        exact ⟨_, _, gd_name, s, hs, rfl⟩
      · obtain ⟨s, hs, rfl⟩ := he
        refine vsc_seqL (F1 := (F.and (.dc P w K encM kM encn a l)).and (.urn K U (m + 1 + (1 + 1) * (i + 1)))) (vs_asgE (I := fun e => ∃ b, b ∈ gbs lf ∧ e = [.v (.ref U), .d (.int (n : Nat)), .d (.list ((pool n).map encM)), .v (.ref a), .d (.int (lf : Nat)), .d d, .d (encM s), .d (.int (b : Nat))]) (ve_if (P := fun d => ∃ b : Nat, b ∈ gbs lf ∧ d = .int (b : Nat)) (vet_p (b := decide (0 < lf)) ((vt_test (vd_op (vd_var (d := .int (lf : Nat)) rfl) vd_int rd_B0)).is (decide_eq_decide.mpr (by omega)))) (fun z => VU.le (vu_op (P := fun d => ∃ b : Nat, b ∈ gbs lf ∧ d = .int (b : Nat)) (vu_b (vb_im (vd_int (i := 1)) rfl)) (vu_call (P := fun d => ∃ k : Nat, k < lf ∧ d = .int (k : Nat)) rfl (vua_b (vba_cons (vb_var rfl) vba_nil)) (fun ds h => ?_) (show m + 1 + (1 + 1) * i + 1 + 1 ≤ LIM from by unfold LIM; omega)) fun a b h1 h2 => ?_) (fun d h => h) (by omega) _ _ hU2 (offD l)) fun z => VU.le (vu_b (vb_im (vd_int (i := 0)) rfl)) (fun d h => ?_) (by omega : m + 1 + (1 + 1) * i + 1 ≤ m + 1 + (1 + 1) * (i + 1)) _ _ hU2 (offD l)) fun d' hd' => ?_) fun e he => ?_
        · subst h
          have z := of_decide_eq_true z.symm
          exact ⟨_, ⟨lf, z, by omega, rfl, rfl⟩, fun d hd => hd⟩
        · obtain ⟨k, hk, rfl⟩ := h2
          subst h1
          have z := of_decide_eq_true z.symm
          refine ⟨.int ((k + 1 : Nat) : Int), ⟨k + 1, ?_, rfl⟩, rfl, RDD.is rd_add (by congr 1; omega)⟩
          unfold gbs
          rw [if_pos z]
          exact List.mem_map.mpr ⟨k, List.mem_range.mpr hk, rfl⟩
        · subst h
          have z := of_decide_eq_false z.symm
          refine ⟨0, ?_, rfl⟩
          unfold gbs
          rw [if_neg z]
          exact List.mem_singleton.mpr rfl
        · obtain ⟨b, hb, rfl⟩ := hd'
          exact ⟨_, _, gd_name, b, hb, rfl⟩
        · obtain ⟨b, hb, rfl⟩ := he
          have hb2 := gbs_le hb
          refine vsc_of (vs_seq1 (VS.pre (F1 := (F.and (.urn K U (m + 1 + (1 + 1) * (i + 1)))).and (.dc P w K encM kM encn a l)) (vs_dset (k := s) (x := (lk l s).getD 0 + b) rfl ((vd_op (vd_getC (encv := encn) (z := 0) (x := (lk l s).getD 0) rfl (vd_var rfl) vd_int rfl) (vd_var rfl) rd_add).is (by unfold encn; congr 1)) im_encn (vd_var rfl) (offU _) (by omega)) fun H h => ⟨⟨h.1.1, h.2⟩, h.1.2⟩) (vs_asg (d := .int ((lf - b : Nat) : Int)) (vb_im ((vd_op (vd_var rfl) (vd_var rfl) rd_I0).is (by congr 1; omega)) rfl) gd_name)) fun e he => ⟨(put l s ((lk l s).getD 0 + b), lf - b), ?_, ?_, fun H h => ⟨⟨h.1.1, h.2⟩, h.1.2⟩⟩
          · exact List.mem_flatMap.mpr ⟨(l, lf), hx, List.mem_flatMap.mpr ⟨s, hs, List.mem_map.mpr ⟨b, hb, rfl⟩⟩⟩
          · rw [he]
            show Le _ [_, _, _, _, _, _, _, _]
            walk_at "le"
    · obtain ⟨nn, ⟨hn1, hn2⟩, rfl⟩ := hp
      rw [List.length_map, List.length_range] at hk
      omega
    · obtain ⟨ds, ⟨nn, ⟨hn1, hn2⟩, rfl⟩, hx⟩ := hx
      rw [List.length_map, List.length_range] at hx
      obtain ⟨l, lf⟩ := x
      obtain ⟨hl1, hl2⟩ := kst_len nn _ hx
      simp only at hl1 hl2
      refine VS.pre (F1 := (F.and (.urn K U (m + 5))).and (.dc P w K encM kM encn a l)) ?_ fun H h => ⟨⟨h.1.1, h.2⟩, h.1.2⟩
      refine vs_freeze (i := 3) rfl ha im_encn (fun d hd => by obtain ⟨_, _, _, _, _, rfl⟩ := hd; exact im_encG _) ?_
      refine (vs_ret (d := encG (kfin l)) (vb_im ?_ (im_encG _))).le (.rt (fun d hd => ⟨nn, (l, lf), hn1, hn2, hx, hd⟩) fun H h => h)
      have kl : (srt encM (l.map (·.1))).length ≤ 2 := by rw [(srt_perm encM _).length_eq, List.length_map]; omega
      refine VD.is (vd_cb (va_cons (VN.dat (vn_lc (ds := (srt encM (l.map (·.1))).map encM) (os := ((srt encM (l.map (·.1))).filter fun k => decide (0 < (lk l k).getD 0)).map fun k => encG1 (k, (lk l k).getD 0)) (vi_lstB (vb_new ((vn_sortC (i := 3) (encv := encn) (l := l) rfl ?_).is ?_) (imA_map _ im_encM _))) ?_ (lc_filter fun k hk => ?_))) va_nil) rg_tupL) ?_
      · rw [show (l.map fun q => encM q.1) = (l.map (·.1)).map encM from by rw [List.map_map]; rfl]
        exact sok_M (by rw [List.length_map]; omega)
      · rw [show (l.map fun q => encM q.1) = (l.map (·.1)).map encM from by rw [List.map_map]; rfl, sortD_map]
      · rw [List.length_map]
        refine Nat.le_trans (List.length_filter_le _ _) (by omega)
      · have hk1 := lk_mem.mpr ((srt_perm encM _).mem_iff.mp hk)
        obtain ⟨v, hv⟩ := Option.isSome_iff_exists.mp hk1
        rw [hv]
        refine ⟨_, _, gd_name, by simp, VT.is (vt_test (vd_op (vd_ixC (i := 3) (encv := encn) (l := l) rfl (vd_var rfl) hv) vd_int rd_B0)) (decide_eq_decide.mpr (by show (v : Int) > 0 ↔ 0 < v; omega)), fun _ => ?_⟩
        exact vb_im (d := encG1 (k, v)) (vd_tup (va_cons (vd_var rfl) (va_cons (vd_ixC (i := 3) (encv := encn) (l := l) rfl (vd_var rfl) hv) va_nil)) (Nat.le_of_ble_eq_true rfl)) (im_encG1 _)
      · unfold encG kfin
        rw [List.map_map]; rfl
end
end NB
end S_NbD13

section S_NbM8
set_option Elab.async false
set_option linter.all false
set_option maxRecDepth 100000
set_option maxHeartbeats 4000000
namespace NB
open PySem PySem.Spec PyProof.Rows L2 PySem.W

theorem eqvAll_map {α : Type} [DecidableEq α] {f : α → PyData} (h : ∀ x y, PyData.eqv (f x) (f y) = decide (x = y)) : ∀ xs ys : List α, PyData.eqvAll (xs.map f) (ys.map f) = decide (xs = ys)
  | [], [] => by simp [PyData.eqvAll]
  | [], y :: ys => by simp [PyData.eqvAll]
  | x :: xs, [] => by simp [PyData.eqvAll]
  | x :: xs, y :: ys => by
    rw [List.map_cons, List.map_cons, PyData.eqvAll, h, eqvAll_map h xs ys]
    simp
theorem eqv_M (x y : List Nat) : PyData.eqv (encM x) (encM y) = decide (x = y) := by
  unfold encM
  rw [PyData.eqv]
  refine eqvAll_map (fun a b => ?_) x y
  rw [eqv_int]
  exact decide_eq_decide.mpr (by omega)
theorem eqv_P (x y : Pw) : PyData.eqv (encP x) (encP y) = decide (x = y) := by
  unfold encP
  rw [PyData.eqv]
  exact eqvAll_map eqv_M x y

/-! ### the law of the basis, mirrored -/
def lst (ps : List Pw) (own : Pw) : Pw := (ps.filter fun q => decide (facs q = facs own)).headD []
def dueL (ps : List Pw) : List Fm := (ps.filter fun own => !decide (lst ps own = own)).map fun own => [(lst ps own, -1), (own, 1)]
def scl (f : Fm) (c : Rat) : Fm := f.map fun x => (x.1, x.2 * c)
def gin (own : Fm) (gone : Fm) (x : Pw × Rat) : Fm := if x.1 = (own.getD 1 ([], 0)).1 then gath (gone ++ negF (scl own x.2)) else gone
def gout (shape : Fm) (gone : Fm) (own : Fm) : Fm := shape.foldl (gin own) gone
def gone (told : List Fm) (shape : Fm) : Fm := told.foldl (gout shape) shape
def GoneOk (told : List Fm) (shape : Fm) : Prop := ∀ (i j : Nat) (own : Fm) (x : Pw × Rat), told[i]? = some own → shape[j]? = some x → x.1 = (own.getD 1 ([], 0)).1 → ∃ b, Rm b ((shape.take j).foldl (gin own) ((told.take i).foldl (gout shape) shape) ++ negF (scl own x.2))
structure FinOk (told : List Fm) (shape : Fm) : Prop where
  s : ∃ b, Rm b shape ∧ SzF shape ∧ BdF 4000 shape
  l : ∃ b, Rm b (shape ++ negF (gone told shape))
  r : ∃ b, Rm b (gath (shape ++ negF (gone told shape)))
  z : SzF (gath (shape ++ negF (gone told shape)))
  e : decide (wish shape = []) = decide (gone told shape = [])
  n : wish (gath (shape ++ negF (gone told shape))) = []
def bps (g : List (List Nat × Nat)) (sums : List Nat) : List Pw := srt encP (lfit (shows g) sums)
def bto (g : List (List Nat × Nat)) (sums : List Nat) : List Fm := srt encF (nbl g sums)
structure BasOk (g : List (List Nat × Nat)) (sums : List Nat) : Prop where
  kind : KindOk g
  sok : SumOk sums
  pos : 0 < sums.length
  due : srt encF (dueL (bps g sums)) = bto g sums
  two : ∀ f ∈ bto g sums, ∃ q p : Pw, f = [(q, -1), (p, 1)]
  nou : ∀ f ∈ bto g sums, wish f = [] ∧ SzF f
  fin : ∀ ps3 : Fm, ps3.length = 3 → (∀ x ∈ ps3, x.1 ∈ bps g sums ∧ x.2 ∈ ratios) → GoneOk (bto g sums) (gath ps3) ∧ FinOk (bto g sums) (gath ps3)
def PbasU (ds : List PyData) (R : PyData → Prop) : Prop := ∃ (g : List (List Nat × Nat)) (sums : List Nat), BasOk g sums ∧ ds = [encG g, encM sums] ∧ R = fun d => d = .bool true
theorem bps_len {g : List (List Nat × Nat)} {sums : List Nat} (k : KindOk g) (s : SumOk sums) : (bps g sums).length ≤ 4096 := by
  unfold bps lfit
  rw [(srt_perm encP _).length_eq]
  exact Nat.le_trans (List.length_filter_le _ _) (allp_len k.2.2.2 s)
theorem bps_sz {g : List (List Nat × Nat)} {sums : List Nat} (k : KindOk g) (s : SumOk sums) : ∀ p ∈ bps g sums, SzP p := fun p hp => by
  unfold bps lfit at hp
  have h1 := (srt_perm encP _).mem_iff.mp hp
  have h2 := allp_sz p (List.mem_filter.mp h1).1
  have := k.2.2.2
  have := s.1
  exact ⟨by omega, fun m hm => by rw [h2.2 m hm]; omega⟩
theorem lst_mem {ps : List Pw} {own : Pw} (h : own ∈ ps) : lst ps own ∈ ps ∧ facs (lst ps own) = facs own ∧ (ps.filter fun q => decide (facs q = facs own))[0]? = some (lst ps own) := by
  have h1 : own ∈ ps.filter fun q => decide (facs q = facs own) := List.mem_filter.mpr ⟨h, decide_eq_true rfl⟩
  unfold lst
  cases e : ps.filter fun q => decide (facs q = facs own) with
  | nil => rw [e] at h1; cases h1
  | cons a l =>
    have h2 : a ∈ ps.filter fun q => decide (facs q = facs own) := by rw [e]; exact List.mem_cons_self
    exact ⟨(List.mem_filter.mp h2).1, of_decide_eq_true (List.mem_filter.mp h2).2, rfl⟩
theorem nbl_len {g : List (List Nat × Nat)} {sums : List Nat} (k : KindOk g) (s : SumOk sums) : (bto g sums).length ≤ 4096 := by
  unfold bto
  rw [(srt_perm encF _).length_eq]
  have h1 := flat_nlot (grpF (srt encP (fitp (shows g) sums)))
  have h2 : gsum (grpF (srt encP (fitp (shows g) sums))) = (srt encP (fitp (shows g) sums)).length := by
    unfold grpF
    rw [gsum_fold]
    show 0 + _ = _
    omega
  rw [(srt_perm encP _).length_eq] at h2
  have h3 := fitp_len (sums := sums) k.2.2.2 s
  unfold nbl
  omega
theorem lfi_tup {ds : List PyData} (hl : ds.length ≤ 100000) (h : ∀ d ∈ ds, lfi d = true) : lfi (.tuple ds) = true := by
  show (decide (ds.length ≤ 100000) && lfi.lfiA ds) = true
  rw [decide_eq_true hl, lfiA_all, List.all_eq_true.mpr h]; rfl
theorem lfi_lst {ds : List PyData} (hl : ds.length ≤ 100000) (h : ∀ d ∈ ds, lfi d = true) : lfi (.list ds) = true := by
  show (decide (ds.length ≤ 100000) && lfi.lfiA ds) = true
  rw [decide_eq_true hl, lfiA_all, List.all_eq_true.mpr h]; rfl
theorem lfi_Q (q : Rat) : lfi (encQ q) = true := rfl
theorem lfi_M {m : List Nat} (h : m.length ≤ 1000) : lfi (encM m) = true := lfi_tup (by rw [List.length_map]; omega) (mem_map_all fun _ _ => rfl)
theorem lfi_P {p : Pw} (h : SzP p) : lfi (encP p) = true := lfi_tup (by rw [List.length_map]; have := h.1; omega) (mem_map_all fun m hm => lfi_M (h.2 m hm))
theorem lfi_F {f : Fm} (h : SzF f) : lfi (encF f) = true := lfi_tup (by rw [List.length_map]; have := h.1; omega) (mem_map_all fun x hx => lfi_tup (by show 2 ≤ 100000; omega) fun d hd => by
  rcases List.mem_cons.mp hd with rfl | hd
  · exact lfi_P (h.2 x hx)
  · rw [List.mem_singleton.mp hd]; exact lfi_Q _)
theorem bd_m1 : Bd 1 (-1) := ⟨by decide, by decide⟩
theorem bd_p1 : Bd 1 1 := ⟨by decide, by decide⟩
theorem rm_two (q p : Pw) : Rm 1 [(q, -1), (p, 1)] := ⟨fun x hx => by
  rcases List.mem_cons.mp hx with rfl | hx
  · exact bd_m1
  · rw [List.mem_singleton.mp hx]; exact bd_p1, Nat.le_of_ble_eq_true rfl, Nat.le_of_ble_eq_true rfl, by decide⟩
end NB
end S_NbM8

section S_NbD14
set_option Elab.async false
set_option linter.all false
set_option maxRecDepth 100000
set_option maxHeartbeats 4000000
set_option exponentiation.threshold 100000
namespace NB
open PySem PySem.Spec PyProof.Rows L2
open Evl (Ex)
local macro_rules | `(tactic| walk_at "vd") => `(tactic| repeat' (first
  | exact vd_var rfl | exact vd_int | exact vd_bl | exact va_nil | exact vba_nil | exact vt_yes
  | with_reducible apply va_cons | with_reducible apply vt_test | with_reducible apply vt_not | with_reducible apply vt_B
  | with_reducible apply vd_tup | with_reducible apply vd_cb | with_reducible apply vd_op | with_reducible apply vd_un
  | exact rd_add | exact rd_ix0 rfl | exact rd_ix1 rfl | exact rd_I0 | exact rd_B0 | exact ru_I
  | exact rg_lenT | exact rg_lenL | exact rc_abs | exact rc_gcd
  | exact Nat.le_of_ble_eq_true rfl))
local macro_rules | `(tactic| walk_at "le") => `(tactic| repeat (first | exact Le.nil | apply Le.same | apply Le.drop))
section
variable {P : Program} {w : World} {K : PySem.W.Frag} {mg : Str → Option Value} {base : Heap}

section
variable {K : PySem.W.Frag} {O : List Addr} {F F2 : As} {env env2 : List Sl} {te : TE} {t u : TS} {r : Rs} {i j : Nat} {d : PyData} {es : List PyData}
/-- a new list that is filled by t, then only read, and a value -/
theorem vs_parLR (m2 : imA es = true) (h : VB K te env d) (hij : i ≠ j)
    (ht : ∀ a, a ∉ O → VS K (a :: O) (F.and (.lst K a [] rfl)) t ((env.set i (.v (.ref a))).set j (.d d)) (.nx (· = env2.set i (.v (.ref a))) (F2.and (.lst K a es m2)))) (hi : i < env2.length)
    (hu : VS K O F2 u (env2.set i (.d (.list es))) r) : VS K O F (tSeq (tPar i j (tCons (tLst tNil) (tCons te tNil))) (tSeq t u)) env r := fun D σ H z q =>
  ⟨Nat.zero_le _, fun p hp => by
    have e1 : Ex H (upd H p (.lst [])) := Ex.new hp
    have np := z.fresh hp
    have x1 : Ex (Bs H O) (Bs (upd H p (.lst [])) (p :: O)) := Bs_new hp
    have z1 : Zs K (p :: O) (F.and (.lst K p [] rfl)) env σ (upd H p (.lst [])) := ⟨fun b mb => by
      rcases List.mem_cons.mp mb with w | w
      · subst w; exact ⟨_, upd_same, trivial⟩
      · exact (z.ex e1).own b w, z.sg.ex x1, As.ex_ e1 z.as, [], upd_same, .nil⟩
    refine h σ _ z1.sg _ (Bs_sub _ _) _ fun v H2 e2 hv => ?_
    have z2 := z1.ex e2
    have hv2 := hv _ (z1.bok e2)
    refine ⟨_, _, rfl, ?_⟩
    refine ht p np _ _ H2 ⟨z2.own, (z2.sg.setV i).setD j hv2, z2.as⟩ fun env' σ' H' he x z' => ?_
    subst he
    obtain ⟨f2, ys, hy, hdy⟩ := z'.as
    have ow : ∀ b ∈ O, ∃ o, H' b = some o ∧ MutT (some o) := fun b mb => z'.own b (List.mem_cons_of_mem _ mb)
    have tk : Tk H' (Bs H' O) := fun b v nv hb => by
      rw [Bs_out, hb]
      intro mb
      obtain ⟨o, g1, g2⟩ := ow b mb
      rw [g1] at hb; cases hb; exact nv g2
    have sv := z'.sg.getV (i := i) (v := .ref p) (by rw [List.getElem?_set_self hi])
    have s3 : Sg K (Bs H' O) σ' ((env2.set i (.v (.ref p))).set i (.d (.list es))) := (z'.sg.ex (Bs_cons _ _ _)).at (x := .d (.list es)) ⟨_, rfl, .lst (by rw [Bs_out np]; exact hy) (DtA.tk tk _ _ m2 hdy)⟩ sv
    rw [List.set_set] at s3
    exact hu D σ' H' ⟨ow, s3, f2⟩ (Rs.ok_mono (x.less hp (e1.trans e2)) q)⟩
theorem bd_ra {q : Rat} (h : q ∈ ratios) : Bd 4000 q := (ratios_bd q h).mono (by decide)
end

theorem sc_law_basis_right : FnScope ["_law_urn", "_law_groups_here", "_law_sums", "_law_powers_here", "_law_due", "_law_told", "_law_own", "_law_least", "_law_near", "_law_shape_here", "_law_lap", "_law_gone", "_law_bit", "_law_far", "_law_x"] ["_law_urn", "_law_groups_here", "_law_sums"] (defScope (topS 48)) := ⟨rfl, rfl, rfl, by decide +kernel, rfl, by decide +kernel, by decide +kernel⟩
theorem cb_law_basis_right (W : Wd K mg) (c__law_fitting : Cb P w K mg base "_law_fitting" 5 ["_law_shows_here", "_law_sums"] (spN K PlftN)) (c__law_gathered : Cb P w K mg base "_law_gathered" 3 ["_law_pairs"] (spD K PgathD)) (c__law_shows : Cb P w K mg base "_law_shows" 1 ["_law_groups_here"] (spO K PshoD)) (c_nought_basis : Cb P w K mg base "nought_basis" 13 ["kinds", "sums"] (spN K PnbN)) (c__law_same : Cb P w K mg base "_law_same" 12 ["_law_mine", "_law_due"] (spD K (PsameD 12))) (c_is_nought : Cb P w K mg base "is_nought" 13 ["form"] (spD K PnouD)) (c__law_of : Cb P w K mg base "_law_of" 2 ["_law_urn", "_law_some"] (spU K 1 PofU)) (c__law_ratio : Cb P w K mg base "_law_ratio" 3 ["_law_urn"] (spU K 1 PratU)) (c__law_less : Cb P w K mg base "_law_less" 4 ["_law_one", "_law_two"] (spD K PlessD)) (c__law_factors : Cb P w K mg base "_law_factors" 1 ["_law_powers_here"] (spD K PfacD)) (c__law_mul : Cb P w K mg base "_law_mul" 2 ["_law_one", "_law_two"] (spD K PmulD)) : Cb P w K mg base "_law_basis_right" 14 ["_law_urn", "_law_groups_here", "_law_sums"] (spU K 6 PbasU) := by
  refine mk_cb W 36 (i := 48) rfl sc_law_basis_right (fun _ _ _ _ _ _ us hl => match us, hl with | [_, _, _], _ => rfl) (fun vs H Q E h => ?_) fun f cdv A outer s H vs Q E hr h => ⟨_, PSs.nox (
    (pss_cons (ps_set (i := 3) sc_law_basis_right.nd rfl (by first | exact Or.inl rfl | exact Or.inr rfl) (pe_cb c__law_fitting (hr.mono (by omega)) rfl (pa_cons (pe_cb c__law_shows (hr.mono (by omega)) rfl (pa_cons (pv 1) pa_nil)) (pa_cons (pv 2) pa_nil))))
  (pss_cons (ps_par (i := 4) (j := 5) rfl sc_law_basis_right.nd rfl rfl (by decide) rfl rfl (pa_cons (pe_lst pa_nil) (pa_cons (pe_cb c_nought_basis (hr.mono (by omega)) rfl (pa_cons (pv 1) (pa_cons (pv 2) pa_nil))) pa_nil)) rfl)
  (pss_cons (ps_for PassesOwn.never rfl (pi_seqX (K := K) rfl (pv 3)) (pg_name (i := 6) sc_law_basis_right.nd rfl (by first | exact Or.inl rfl | exact Or.inr rfl)) (pss_cons (ps_set (i := 7) sc_law_basis_right.nd rfl (by first | exact Or.inl rfl | exact Or.inr rfl) (pe_ix (ix_seqX (K := K) rfl) (pe_lc (own := [("_law_near", 8)]) rfl sc_law_basis_right.nd (pi_seqX (K := K) rfl (pv 3)) (blkOk_by (N := ["_law_urn", "_law_groups_here", "_law_sums", "_law_powers_here", "_law_due", "_law_told", "_law_own", "_law_least", "_law_near", "_law_shape_here", "_law_lap", "_law_gone", "_law_bit", "_law_far", "_law_x"]) (sc := defScope (topS 48)) (by decide +kernel)) (fun _ _ _ _ _ => (pg_name (i := 8) sc_law_basis_right.nd rfl (by first | exact Or.inl rfl | exact Or.inr rfl))) (fun _ _ _ _ _ => (pts_one (pt_cmpR (op_eqX (K := K) rfl hr.units) (pe_cb c__law_factors (hr.mono (by omega)) rfl (pa_cons (pv 8) pa_nil)) (pe_cb c__law_factors (hr.mono (by omega)) rfl (pa_cons (pv 6) pa_nil)) (nomark _)))) (fun _ _ _ _ _ => (pv 8))) pe_int (fun _ _ => rfl)))
  (pss_one (ps_if (pt_cmpR (op_neX (K := K) rfl hr.units) (pv 7) (pv 6) (nomark _)) (pss_one (ps_expr (pe_bmX (K := K) rfl PySem.F.plainAttrs_list PySem.F.slot_list_append PySem.F.type_list_append mt_append (pv 4) (pa_cons (pe_tup (pa_cons (pe_tup (pa_cons (pv 7) (pa_cons (pe_tup (pa_cons (pe_un un_neg pe_int) (pa_cons pe_int pa_nil))) pa_nil))) (pa_cons (pe_tup (pa_cons (pv 6) (pa_cons (pe_tup (pa_cons pe_int (pa_cons pe_int pa_nil))) pa_nil))) pa_nil))) pa_nil)))) pss_nil))))
  (pss_cons (ps_if (PW.pt (pw_or (pt_not (pt_val (pe_cb c__law_same (hr.mono (by omega)) rfl (pa_cons (pv 5) (pa_cons (pe_callB (cr_sortLX (K := K) rfl hr.units) (by rfl) (W.free "sorted") (by decide +kernel) (pa_cons (pv 4) pa_nil)) pa_nil))))) (pw_or1 (pt_not (pt_val (pe_callB (cr_allX (K := K) rfl rfl) (by rfl) (W.free "all") (by decide +kernel) (pa_cons (pe_lc (own := [("_law_own", 6)]) rfl sc_law_basis_right.nd (pi_seqX (K := K) rfl (pv 5)) (blkOk_by (N := ["_law_urn", "_law_groups_here", "_law_sums", "_law_powers_here", "_law_due", "_law_told", "_law_own", "_law_least", "_law_near", "_law_shape_here", "_law_lap", "_law_gone", "_law_bit", "_law_far", "_law_x"]) (sc := defScope (topS 48)) (by decide +kernel)) (fun _ _ _ _ _ => (pg_name (i := 6) sc_law_basis_right.nd rfl (by first | exact Or.inl rfl | exact Or.inr rfl))) (fun _ _ _ _ _ => pts_nil) (fun _ _ _ _ _ => (pe_cb c_is_nought (hr.mono (by omega)) rfl (pa_cons (pv 6) pa_nil)))) pa_nil))))))) (pss_one (ps_ret pe_bl)) pss_nil)
  (pss_cons (ps_if (pt_cmpR (op_eqX (K := K) rfl hr.units) (pv 3) (pe_lst pa_nil) (nomark _)) (pss_one (ps_ret pe_bl)) pss_nil)
  (pss_cons (ps_set (i := 9) sc_law_basis_right.nd rfl (by first | exact Or.inl rfl | exact Or.inr rfl) (pe_cb c__law_gathered (hr.mono (by omega)) rfl (pa_cons (pe_lc (own := [("_law_lap", 10)]) rfl sc_law_basis_right.nd (pi_range1 rfl (W.free "range") (pa_cons pe_int pa_nil)) (blkOk_by (N := ["_law_urn", "_law_groups_here", "_law_sums", "_law_powers_here", "_law_due", "_law_told", "_law_own", "_law_least", "_law_near", "_law_shape_here", "_law_lap", "_law_gone", "_law_bit", "_law_far", "_law_x"]) (sc := defScope (topS 48)) (by decide +kernel)) (fun _ _ _ _ _ => (pg_name (i := 10) sc_law_basis_right.nd rfl (by first | exact Or.inl rfl | exact Or.inr rfl))) (fun _ _ _ _ _ => pts_nil) (fun _ _ _ _ _ => (pe_tup (pa_cons (pe_cb c__law_of (hr.mono (by omega)) rfl (pa_cons (pv 0) (pa_cons (pv 3) pa_nil))) (pa_cons (pe_cb c__law_ratio (hr.mono (by omega)) rfl (pa_cons (pv 0) pa_nil)) pa_nil))))) pa_nil)))
  (pss_cons (ps_set (i := 11) sc_law_basis_right.nd rfl (by first | exact Or.inl rfl | exact Or.inr rfl) (pv 9))
  (pss_cons (ps_for PassesOwn.never rfl (pi_seqX (K := K) rfl (pv 5)) (pg_name (i := 6) sc_law_basis_right.nd rfl (by first | exact Or.inl rfl | exact Or.inr rfl)) (pss_one (ps_for PassesOwn.never rfl (pi_seqX (K := K) rfl (pv 9)) (pg_tupX (n := 2) (K := K) rfl rfl (pgs_cons (pg_name (i := 3) sc_law_basis_right.nd rfl (by first | exact Or.inl rfl | exact Or.inr rfl)) (pgs_cons (pg_name (i := 12) sc_law_basis_right.nd rfl (by first | exact Or.inl rfl | exact Or.inr rfl)) pgs_nil))) (pss_one (ps_if (pt_cmpR (op_eqX (K := K) rfl hr.units) (pv 3) (pe_ix (ix_seqX (K := K) rfl) (pe_ix (ix_seqX (K := K) rfl) (pv 6) pe_int (fun _ _ => rfl)) pe_int (fun _ _ => rfl)) (nomark _)) (pss_one (ps_set (i := 11) sc_law_basis_right.nd rfl (by first | exact Or.inl rfl | exact Or.inr rfl) (pe_cb c__law_less (hr.mono (by omega)) rfl (pa_cons (pv 11) (pa_cons (pe_lc (own := [("_law_far", 13), ("_law_x", 14)]) rfl sc_law_basis_right.nd (pi_seqX (K := K) rfl (pv 6)) (blkOk_by (N := ["_law_urn", "_law_groups_here", "_law_sums", "_law_powers_here", "_law_due", "_law_told", "_law_own", "_law_least", "_law_near", "_law_shape_here", "_law_lap", "_law_gone", "_law_bit", "_law_far", "_law_x"]) (sc := defScope (topS 48)) (by decide +kernel)) (fun _ _ _ _ _ => (pg_tupX (n := 2) (K := K) rfl rfl (pgs_cons (pg_name (i := 13) sc_law_basis_right.nd rfl (by first | exact Or.inl rfl | exact Or.inr rfl)) (pgs_cons (pg_name (i := 14) sc_law_basis_right.nd rfl (by first | exact Or.inl rfl | exact Or.inr rfl)) pgs_nil)))) (fun _ _ _ _ _ => pts_nil) (fun _ _ _ _ _ => (pe_tup (pa_cons (pv 13) (pa_cons (pe_cb c__law_mul (hr.mono (by omega)) rfl (pa_cons (pv 14) (pa_cons (pv 12) pa_nil))) pa_nil))))) pa_nil))))) pss_nil)))))
  (pss_one (ps_ret (pe_and (pe_cmpR (op_eqX (K := K) rfl hr.units) (pe_cb c_is_nought (hr.mono (by omega)) rfl (pa_cons (pv 9) pa_nil)) (pe_cmpR (op_eqX (K := K) rfl hr.units) (pv 11) (pe_tup pa_nil) (nomark _)) (nomark _)) (pe_one (pe_cmpR op_isG (pe_cb c_is_nought (hr.mono (by omega)) rfl (pa_cons (pe_cb c__law_less (hr.mono (by omega)) rfl (pa_cons (pv 9) (pa_cons (pv 11) pa_nil))) pa_nil)) pe_bl (nomark _))))))))))))))), body_U (fun O F U m ds R p hU hm hF hN => ?_) h⟩
  · obtain ⟨O, U, m, ws, ds, R, p, rfl, _, _, _, _, hd, _⟩ := h
    rw [List.length_cons, hd.len]
    obtain ⟨g, sums, ok, rfl, rfl⟩ := p
    rfl
  · obtain ⟨g, sums, ok, rfl, rfl⟩ := p
    have hm' : m + 6 ≤ 1099511627776 := hm
    obtain ⟨kind, sok, pos, due, two, nou, fin⟩ := ok
    obtain ⟨hg1, hg2, hg3, hg4⟩ := kind
    have pl := bps_len ⟨hg1, hg2, hg3, hg4⟩ sok
    have psz := bps_sz ⟨hg1, hg2, hg3, hg4⟩ sok
    have tl := nbl_len ⟨hg1, hg2, hg3, hg4⟩ sok
    let ps := bps g sums
    let told := bto g sums
    let c := fun own : Pw => !decide (lst ps own = own)
    let mk := fun own : Pw => ([(lst ps own, -1), (own, 1)] : Fm)
    refine vs_seq1 (vs_asg (d := .list (ps.map encP)) (vb_new (vn_call (PN := PlftN) (va_cons (vd_callO (P := PshoD) (va_cons (vd_var rfl) va_nil) ⟨g, by omega, fun x hx => by have := (hg2 x hx).1; omega, rfl, rfl⟩) (va_cons (vd_var rfl) va_nil)) ⟨shows g, sums, pos, hg4, sok, rfl, rfl⟩) (imA_map _ im_encP _)) gd_name) ?_
    refine vs_parLR (F2 := F.and (.urn K U m)) (es := (dueL ps).map encF) (d := .list (told.map encF)) (env2 := [.v (.ref U), .d (encG g), .d (encM sums), .d (.list (ps.map encP)), .no, .d (.list (told.map encF)), .no, .no, .no, .no, .no, .no, .no, .no, .no]) (imA_map _ im_encF _) (vb_new (vn_call (PN := PnbN) (va_cons (vd_var rfl) (va_cons (vd_var rfl) va_nil)) ⟨g, sums, ⟨hg1, hg2, hg3, hg4⟩, sok, rfl, rfl⟩) (imA_map _ im_encF _)) (by decide) (fun a ha => ?_) (Nat.lt_of_sub_eq_succ rfl) ?_
    · have Ua : U ≠ a := fun e => ha (e ▸ hU)
      have offU : (F.and (As.urn K U m)).Off a := As.off_and (hN a ha) (As.off_urn Ua)
      refine (vs_forT (f := encP) (xs := ps) (fun j => [.v (.ref U), .d (encG g), .d (encM sums), .d (.list (ps.map encP)), .v (.ref a), .d (.list (told.map encF)), .no, .no, .no, .no, .no, .no, .no, .no, .no]) (fun j => (F.and (.urn K U m)).and (.lst K a ((((ps.take j).filter c).map mk).map encF) (imA_map _ im_encF _))) (vi_seqL (vb_var rfl)) (Le.refl _) (fun H h => h) fun j own hj => ?_).le (.nx (fun e he => ⟨e, he, Le.refl _⟩) fun H h => by rw [List.take_length] at h; exact h)
      have hmem : own ∈ ps := List.mem_of_getElem? hj
      obtain ⟨l1, l2, l3⟩ := lst_mem hmem
      have fc : ∀ q : Pw, q ∈ ps → ∀ env : List Sl, ∀ i, env[i]? = some (.d (encP q)) → VD K (tCall (spD K PfacD) [] E0 (tCons (tVar i) tNil)) env (encP (facs q)) := fun q hq env i hi => vd_call (P := PfacD) (va_cons (vd_var hi) va_nil) ⟨false, q, (psz q hq).1, rfl, rfl⟩
      refine ⟨_, _, _, gd_name, vs_seq1 (vs_asg (d := encP (lst ps own)) (vb_im (vd_op (VN.dat (vn_lc (ds := ps.map encP) (os := (ps.filter fun q => decide (facs q = facs own)).map encP) (vi_seqL (vb_var rfl)) ?_ (lc_filter fun q hq => ⟨_, _, gd_name, by simp, VT.is (vt_test (vd_op (fc q hq _ 8 rfl) (fc own hmem _ 6 rfl) (rd_eqD (sh_P _) (sh_P _)))) (eqv_P _ _), fun _ => vb_var rfl⟩))) vd_int (rd_ixL0 ?_)) (im_encP _)) gd_name) ((vs_if (b := !decide (lst ps own = own)) (VT.is (vt_test (vd_op (vd_var rfl) (vd_var rfl) (rd_neD (sh_P _) (sh_P _)))) (by rw [eqv_P])) (fun z => (vs_append (m' := ?_) (d := encF (mk own)) rfl List.mem_cons_self ?_ offU ?_).le (.nx (fun e he => ⟨e, he, Le.refl _⟩) fun H h => ?_)) fun z => (vs_next).le (.nx (fun e he => ⟨e, he, Le.refl _⟩) fun H h => ?_))), ?_⟩
      · rw [List.length_map]
        exact Nat.le_trans (List.length_filter_le _ _) (Nat.le_trans pl (by decide))
      · rw [List.getElem?_map, l3]; rfl
      · rw [show ((((ps.take j).filter c).map mk).map encF ++ [encF (mk own)]) = ((((ps.take j).filter c).map mk ++ [mk own])).map encF from by rw [List.map_append]; rfl]
        exact imA_map _ im_encF _
      · exact vd_tup (va_cons (show VD K _ _ (encF1 (lst ps own, -1)) from vd_tup (va_cons (vd_var rfl) (va_cons (show VD K _ _ (encQ (-1)) from vd_tup (va_cons (vd_un vd_int ru_I) (va_cons vd_int va_nil)) (Nat.le_of_ble_eq_true rfl)) va_nil)) (Nat.le_of_ble_eq_true rfl)) (va_cons (show VD K _ _ (encF1 (own, 1)) from vd_tup (va_cons (vd_var rfl) (va_cons (show VD K _ _ (encQ 1) from vd_tup (va_cons vd_int (va_cons vd_int va_nil)) (Nat.le_of_ble_eq_true rfl)) va_nil)) (Nat.le_of_ble_eq_true rfl)) va_nil)) (Nat.le_of_ble_eq_true rfl)
      · rw [List.length_map, List.length_map]
        have h1 := List.length_filter_le c (ps.take j)
        rw [List.length_take] at h1
        have : ps.length ≤ 4096 := pl
        omega
      · refine ⟨h.1, ?_⟩
        obtain ⟨xs, g1, g2⟩ := h.2
        refine ⟨xs, g1, ?_⟩
        rw [filter_take c ps hj, show c own = true from z, List.map_append, List.map_append]
        exact g2
      · refine ⟨h.1, ?_⟩
        obtain ⟨xs, g1, g2⟩ := h.2
        refine ⟨xs, g1, ?_⟩
        rw [filter_take c ps hj, show c own = false from z, List.map_append, List.map_append]
        simpa using g2
      · walk_at "le"
    · have tsz : told.length ≤ 4096 := tl
      have eS : (srt encF (dueL ps)) = told := due
      have dl : (dueL ps).length ≤ 4096 := by
        rw [← (srt_perm encF _).length_eq, eS]; exact tsz
      refine vs_seq1 (vs_ifF ((vt_or (vt_not (vt_B (vd_call (P := PsameD 12) (d := .bool true) (va_cons (vd_var rfl) (va_cons (VN.dat ((vn_cb (va_cons (vd_var rfl) va_nil) (rcn_sortL (sok_F (by omega)))).is (by rw [sortD_map, eS]))) va_nil)) ⟨_, ?_, ?_, rfl, rfl⟩))) fun _ => vt_not (vt_B (b := true) ((vd_cb (va_cons (VN.dat (vn_lc (os := (told.map fun _ => true).map .bool) (vi_seqL (vb_var rfl)) (by rw [List.length_map, List.length_map]; omega) ?_)) va_nil) rc_allL).is ?_))).is rfl) vs_next) ?_
      · exact Nat.lt_of_le_of_lt (dep_lst (n := 4) (mem_map_all fun x _ => dp_F x)) (by decide)
      · exact lfi_lst (by rw [List.length_map]; omega) (mem_map_all fun x hx => lfi_F (nou x hx).2)
      · rw [List.map_map]
        refine lc_map fun f hf => ⟨_, _, gd_name, by simp, vt_yes, vb_im ((vd_call (P := PnouD) (va_cons (vd_var rfl) va_nil) ⟨1, f, ?_, (nou f hf).2, rfl, rfl⟩).is ?_) rfl⟩
        · obtain ⟨q, p, rfl⟩ := two f hf
          exact rm_two q p
        · rw [decide_eq_true (nou f hf).1]; rfl
      · congr 1
        rw [List.all_eq_true]
        intro x hx
        obtain ⟨_, _, rfl⟩ := List.mem_map.mp hx
        rfl
      have ite : PyData.eqv (.list (ps.map encP)) (.list []) = decide (ps = []) := by
        rw [eqv_nilL]
        exact decide_eq_decide.mpr List.map_eq_nil_iff
      by_cases hp : ps = []
      · exact vs_seqR (vs_ifT ((vt_test (vd_op (vd_var rfl) (VN.dat (vn_lst va_nil (Nat.le_of_ble_eq_true rfl))) (rd_eqD (sh_map cl_P dp_P (by decide) _) rfl))).is (by rw [ite, decide_eq_true hp])) ((vs_ret (vb_im vd_bl rfl)).le (.rt (fun d h => h) fun H h => ⟨h.1, As.urn_mono (by omega) h.2⟩)))
      refine vs_seq1 (vs_ifF ((vt_test (vd_op (vd_var rfl) (VN.dat (vn_lst va_nil (Nat.le_of_ble_eq_true rfl))) (rd_eqD (sh_map cl_P dp_P (by decide) _) rfl))).is (by rw [ite, decide_eq_false hp])) vs_next) ?_
      have p0 : 0 < ps.length := by cases e : ps with | nil => exact absurd e hp | cons _ _ => simp
      have pz : ps.length ≤ 4096 := pl
      refine vs_seq (F1 := F.and (.urn K U (m + 6))) (vs_asgE (I := fun e => ∃ ps3 : Fm, ps3.length = 3 ∧ (∀ x ∈ ps3, x.1 ∈ ps ∧ x.2 ∈ ratios) ∧ e = [.v (.ref U), .d (encG g), .d (encM sums), .d (.list (ps.map encP)), .d (.list ((dueL ps).map encF)), .d (.list (told.map encF)), .no, .no, .no, .d (encF (gath ps3)), .no, .no, .no, .no, .no]) (ve_callD (P := fun d => ∃ ps3 : Fm, ps3.length = 3 ∧ (∀ x ∈ ps3, x.1 ∈ ps ∧ x.2 ∈ ratios) ∧ d = encF (gath ps3)) (PS := PgathD) (PA := fun ds => ∃ ps3 : Fm, ps3.length = 3 ∧ (∀ x ∈ ps3, x.1 ∈ ps ∧ x.2 ∈ ratios) ∧ ds = [.list (ps3.map encF1)]) (VEA.le (vea_cons (ve_lc (m2 := m + 6) (PA := (· = (List.range 3).map fun i => PyData.int (i : Nat))) (P := fun d => ∃ x : Pw × Rat, (x.1 ∈ ps ∧ x.2 ∈ ratios) ∧ d = encF1 x) (fun i => m + (1 + 1) * i) hU hF (vei_p (VI.z ?_)) (fun ds h => ?_) (fun d h => ?_) fun i d ds h hd => ⟨_, _, gd_name, by simp, ?_⟩) vea_nil) fun ds h => ?_) fun ds h => ?_) fun d h => ?_) fun e he => ?_
      · exact vi_rng1 (K := K) (j := 3) (va_cons vd_int va_nil) (by omega) (by omega)
      · subst h
        exact ⟨by simp, by simp⟩
      · obtain ⟨x, _, rfl⟩ := h
        exact im_encF1 x
      · have hi3 : i < 3 := by
          subst h
          have := (List.getElem?_eq_some_iff.mp hd).1
          simpa using this
        refine VU.le (vu_tup (vua_cons (vu_call (P := fun d => ∃ p : Pw, p ∈ ps ∧ d = encP p) rfl (vua_b (ds := [.list (ps.map encP)]) (vba_cons (vb_var rfl) vba_nil)) (fun ds h => ?_) ?_) (vua_cons (vu_call (P := fun d => ∃ q, q ∈ ratios ∧ d = encQ q) rfl vua_nil (fun ds h => ?_) ?_) vua_nil)) fun ds h => ?_) (fun d h => ?_) (by omega : m + (1 + 1) * i + 1 + 1 ≤ m + (1 + 1) * (i + 1))
        · subst h
          refine ⟨_, ⟨true, ps.map encP, by rw [List.length_map]; exact p0, ?_, imA_map _ im_encP _, rfl, rfl⟩, fun d hd => ?_⟩
          · rw [List.length_map]; omega
          · obtain ⟨p, h1, h2⟩ := List.mem_map.mp hd
            exact ⟨p, h1, h2.symm⟩
        · unfold LIM; omega
        · subst h
          exact ⟨_, ⟨rfl, rfl⟩, fun d hd => hd⟩
        · unfold LIM; omega
        · obtain ⟨d, es, rfl, _, d2, es2, rfl, _, rfl⟩ := h
          exact Nat.le_of_ble_eq_true rfl
        · obtain ⟨ds, rfl, d, es, rfl, ⟨p, hp, rfl⟩, d2, es2, rfl, ⟨q, hq, rfl⟩, rfl⟩ := h
          exact ⟨(p, q), ⟨hp, hq⟩, rfl⟩
      · obtain ⟨d, es, rfl, ⟨os, dd, rfl, rfl, hl, ho⟩, rfl⟩ := h
        obtain ⟨ps3, rfl, hps⟩ := ex_map ho
        refine ⟨ps3, ?_, hps, rfl⟩
        rw [List.length_map] at hl
        simpa using hl
      · obtain ⟨ps3, hl, hps, rfl⟩ := h
        exact ⟨_, ⟨2, ps3, fun x hx => ratios_bd _ (hps x hx).2, by rw [hl]; decide, by rw [hl]; decide, by decide, rfl, rfl⟩, ⟨ps3, hl, hps, rfl⟩, im_encF _⟩
      · obtain ⟨ps3, hl, hps, rfl⟩ := h
        exact ⟨_, _, gd_name, ps3, hl, hps, rfl⟩
      obtain ⟨ps3, hl3, hps3, rfl⟩ := he
      obtain ⟨gok, fs, fl, fr, fz, fe, fn⟩ := fin ps3 hl3 hps3
      generalize hsh : gath ps3 = shape at gok fs fl fr fz fe fn ⊢
      obtain ⟨bs, rs, ss, b4⟩ := fs
      let G := fun i => (told.take i).foldl (gout shape) shape
      refine vs_seq1 (vs_asg (d := encF (G 0)) (vb_var rfl) gd_name) ?_
      refine vs_seq1 (vs_forC (f := encF) (xs := told) (fun i => [.v (.ref U), .d (encG g), .d (encM sums), .no, .d (.list ((dueL ps).map encF)), .d (.list (told.map encF)), .no, .no, .no, .d (encF shape), .no, .d (encF (G i)), .no, .no, .no]) (vi_seqL (vb_var rfl)) ?_ fun i own hi => ?_) ?_
      · show Le [_, _, _, _, _, _, _, _, _, _, _, _, _, _, _] _
        exact .same (.same (.same (.drop (Le.refl _))))
      · have omem : own ∈ told := List.mem_of_getElem? hi
        obtain ⟨q0, p0', ho⟩ := two own omem
        let Gj := fun j => (shape.take j).foldl (gin own) (G i)
        refine ⟨_, _, _, gd_name, vs_forC (f := encF1) (xs := shape) (fun j => [.v (.ref U), .d (encG g), .d (encM sums), .no, .d (.list ((dueL ps).map encF)), .d (.list (told.map encF)), .d (encF own), .no, .no, .d (encF shape), .no, .d (encF (Gj j)), .no, .no, .no]) (vi_seqT (vb_var rfl)) (Le.refl _) fun j x hj => ?_, ?_⟩
        · have xm : x ∈ shape := List.mem_of_getElem? hj
          refine ⟨_, _, [.v (.ref U), .d (encG g), .d (encM sums), .d (encP x.1), .d (.list ((dueL ps).map encF)), .d (.list (told.map encF)), .d (encF own), .no, .no, .d (encF shape), .no, .d (encF (Gj (j + 1))), .d (encQ x.2), .no, .no], gd_tup (gds_cons gd_name (gds_cons gd_name gds_nil)) rfl, vs_if (b := decide (x.1 = (own.getD 1 ([], 0)).1)) (VT.is (vt_test (vd_op (vd_var rfl) (vd_op (vd_op (vd_var rfl) vd_int (rd_ix1 (d := encF1 (p0', 1)) (by rw [ho]; rfl))) vd_int (rd_ix0 (d := encP p0') rfl)) (rd_eqD (sh_P _) (sh_P _)))) (by rw [eqv_P, ho]; rfl)) (fun z => ?_) fun z => ?_, ?_⟩
          · obtain ⟨b, rm⟩ := gok i j own x hi hj (of_decide_eq_true z)
            refine (vs_asg (d := encF (gath (Gj j ++ negF (scl own x.2)))) (vb_im (vd_call (P := PlessD) (ds := [encF (Gj j), dk true ((scl own x.2).map encF1)]) (va_cons (vd_var rfl) (va_cons (VN.dat (vn_lc (ds := own.map encF1) (os := (scl own x.2).map encF1) (vi_seqT (vb_var rfl)) (by rw [ho]; exact Nat.le_of_ble_eq_true rfl) ?_)) va_nil)) ⟨b, true, Gj j, scl own x.2, rm, rfl, rfl⟩) (im_encF _)) gd_name).le (.nx (fun e he => ⟨_, rfl, ?_⟩) fun H h => h)
            · unfold scl
              rw [List.map_map]
              refine lc_map fun y hy => ⟨_, _, gd_tup (gds_cons gd_name (gds_cons gd_name gds_nil)) rfl, by simp, vt_yes, vb_im (d := encF1 (y.1, y.2 * x.2)) (vd_tup (va_cons (vd_var rfl) (va_cons (vd_call (P := PmulD) (va_cons (vd_var rfl) (va_cons (vd_var rfl) va_nil)) ⟨y.2, x.2, ?_, b4 x xm, rfl, rfl⟩) va_nil)) (Nat.le_of_ble_eq_true rfl)) (im_encF1 _)⟩
              rw [ho] at hy
              exact ((rm_two q0 p0').bd y hy).mono (by decide)
            · rw [he]
              have : Gj (j + 1) = gath (Gj j ++ negF (scl own x.2)) := by
                show (shape.take (j + 1)).foldl (gin own) (G i) = _
                rw [fold_take _ _ _ hj]
                exact if_pos (of_decide_eq_true z)
              rw [this]
              exact Le.refl _
          · refine vs_next.le (.nx (fun e he => ⟨_, rfl, ?_⟩) fun H h => h)
            rw [he]
            have : Gj (j + 1) = Gj j := by
              show (shape.take (j + 1)).foldl (gin own) (G i) = _
              rw [fold_take _ _ _ hj]
              exact if_neg (of_decide_eq_false z)
            rw [this]
            exact Le.refl _
          · walk_at "le"
        · have : G (i + 1) = Gj shape.length := by
            show (told.take (i + 1)).foldl (gout shape) shape = (shape.take shape.length).foldl (gin own) _
            rw [fold_take _ _ _ hi, List.take_length]; rfl
          show Le _ [_, _, _, _, _, _, _, _, _, _, _, .d (encF (G (i + 1))), _, _, _]
          rw [this]
          walk_at "le"
      · have gt : G told.length = gone told shape := by
          show (told.take told.length).foldl _ _ = _
          rw [List.take_length]; rfl
        show VS K O _ _ [_, _, _, _, _, _, _, _, _, _, _, .d (encF (G told.length)), _, _, _] _
        rw [gt]
        obtain ⟨bl, rl⟩ := fl
        obtain ⟨br, rr⟩ := fr
        refine (vs_ret (vb_im ((vd_andV (a := true) (b := true) ((vd_op (vd_call (P := PnouD) (va_cons (vd_var rfl) va_nil) ⟨bs, shape, rs, ss, rfl, rfl⟩) ((vd_op (vd_var rfl) (vd_tup va_nil (Nat.le_of_ble_eq_true rfl)) (rd_eqD (sh_F _) rfl)).is (by rw [eqv_nil])) (rd_eqD rfl rfl)).is ?_) fun _ => (vd_op (vd_call (P := PnouD) (va_cons (vd_call (P := PlessD) (va_cons (vd_var rfl) (va_cons (vd_var rfl) va_nil)) ⟨bl, false, shape, gone told shape, rl, rfl, rfl⟩) va_nil) ⟨br, _, rr, fz, rfl, rfl⟩) vd_bl rd_isT).is ?_)) rfl)).le (.rt (fun d hd => hd) fun H h => h)
        · rw [fe]
          cases decide (gone told shape = []) <;> rfl
        · rw [decide_eq_true fn]
end
end NB
end S_NbD14

section S_NbF
set_option Elab.async false
set_option linter.all false
set_option maxRecDepth 100000
set_option maxHeartbeats 4000000
namespace NB
open PySem PySem.Spec PyProof.Rows L2 PySem.W

/-! ### the table of the code objects of a def -/
def As.tab (T : Addr) (q : Str) (U : Addr) : As := ⟨fun H => T ≠ U ∧ ∃ ps : Array Value, H T = some (.tbl ps) ∧ TriplesOk ps.toList ∧ ∀ (pos : Pos) (cv : Value), codeAmong pos ps.toList = some cv → ∃ c, cv = .ref c ∧ c ≠ U ∧ H c = some (LamX.CodeO c q),
  fun H H' e ⟨n, ps, h1, h2, h3⟩ => ⟨n, ps, e _ _ h1, h2, fun pos cv hc => by
    obtain ⟨c, e1, e2, e3⟩ := h3 pos cv hc
    exact ⟨c, e1, e2, e _ _ e3⟩⟩⟩
theorem As.off_tab {T U : Addr} {q : Str} : (As.tab T q U).Off U := fun H H' k t ⟨n, ps, h1, h2, h3⟩ => ⟨n, ps, (k T n).trans h1, h2, fun pos cv hc => by
  obtain ⟨c, e1, e2, e3⟩ := h3 pos cv hc
  exact ⟨c, e1, e2, (k c e2).trans e3⟩⟩
def As.keepT (H : Hp) (O : List Addr) (U T : Addr) : As := ⟨fun H' => ∀ a ∈ O, a ≠ U → a ≠ T → ∀ o, H a = some o → H' a = some o, fun H1 H2 e h a m n n2 o q => e a o (h a m n n2 o q)⟩
theorem As.off_keepT {H : Hp} {O : List Addr} {U T : Addr} : (As.keepT H O U T).Off U := fun H1 H2 k t p b m n n2 o q => by
  rw [k b n]; exact p b m n n2 o q
theorem As.off_keepT2 {H : Hp} {O : List Addr} {U T : Addr} : (As.keepT H O U T).Off T := fun H1 H2 k t p b m n n2 o q => by
  rw [k b n2]; exact p b m n n2 o q
theorem As.off_keepTN {H : Hp} {O : List Addr} {U T a : Addr} (h : a ∉ O) : (As.keepT H O U T).Off a := fun H1 H2 k t p b m n n2 o q => by
  rw [k b (fun e => h (e ▸ m))]; exact p b m n n2 o q
def spT (K : PySem.W.Frag) (T : Addr) (tq : Str) (k : Nat) (P : List PyData → (PyData → Prop) → Prop) : Sp := fun vs H Q _ => ∃ (O : List Addr) (U : Addr) (m : Nat) (ws : List V) (ds : List PyData) (R : PyData → Prop), P ds R ∧ vs = .ref U :: ws ∧ U ∈ O ∧ T ∈ O ∧ m + k ≤ LIM ∧ (∀ a ∈ O, ∃ o, H a = some o ∧ MutT (some o)) ∧ (As.urn K U m).p H ∧ (As.tab T tq U).p H ∧ DtA K (Bs H O) ws ds ∧
  ∀ v d H', R d → (∀ a o, a ≠ U → a ≠ T → H a = some o → H' a = some o) → (As.urn K U (m + k)).p H' → (As.tab T tq U).p H' → Dt K (Bs H' O) v d → Q v H'
theorem body_T {K : PySem.W.Frag} {T : Addr} {tq : Str} {k : Nat} {P : List PyData → (PyData → Prop) → Prop} {E : XK} {N : List Str} {t : TS} {vs : List V} {H : Hp} {Q : VK}
    (hb : ∀ (O : List Addr) (F : As) (U : Addr) (m : Nat) (ds : List PyData) (R : PyData → Prop), P ds R → U ∈ O → T ∈ O → T ≠ U → m + k ≤ LIM → F.Off U → F.Off T → (∀ a, a ∉ O → F.Off a) → VS K O ((F.and (.tab T tq U)).and (.urn K U m)) t (enterU N U ds) (.rt R ((F.and (.tab T tq U)).and (.urn K U (m + k))))) (h : spT K T tq k P vs H Q E) : t { nx := fun _ H' => Q .non H', rt := Q } (L2.start N vs) H := by
  obtain ⟨O, U, m, ws, ds, R, p, rfl, hU, hT, hm, ow, hu, ht, hd, q⟩ := h
  refine hb O (As.keepT H O U T) U m ds R p hU hT ht.1 hm As.off_keepT As.off_keepT2 (fun a ha => As.off_keepTN ha) _ _ H ⟨ow, Sg.startU hd, ⟨fun a m n n2 o q => q, ht⟩, hu⟩ fun v d' H' r x f hv => q v d' H' r (fun a o n n2 h => ?_) f.2 f.1.2 hv
  by_cases ma : a ∈ O
  · exact f.1.1 a ma n n2 o h
  · exact x.at ma h
section
variable {K : PySem.W.Frag} {U T : Addr} {tq : Str} {m m1 k : Nat} {O : List Addr} {G : As} {env : List Sl} {tA : TA} {P : PyData → Prop} {PA : List PyData → Prop} {E : XK}
theorem ve_callT {PS : List PyData → (PyData → Prop) → Prop} {i : Nat} (hU : U ∈ O) (hT : T ∈ O) (hG : G.Off U) (hGT : G.Off T) (hi : env[i]? = some (.v (.ref U))) (h : VEA K O ((G.and (.tab T tq U)).and (.urn K U m)) tA env PA ((G.and (.tab T tq U)).and (.urn K U m1))) (hp : ∀ ds, PA ds → ∃ R, PS ds R ∧ ∀ d, R d → P d) (hm : m1 + k ≤ LIM) :
    VE K O ((G.and (.tab T tq U)).and (.urn K U m)) (tCall (spT K T tq k PS) [] E (tCons (tVar i) tA)) env P ((G.and (.tab T tq U)).and (.urn K U (m1 + k))) := fun σ H z Q q => by
  refine ⟨_, z.sg.getV hi, h σ H z _ fun ws ds H1 pd x1 z1 hw => ?_⟩
  obtain ⟨R, ps, rp⟩ := hp ds pd
  refine ⟨O, U, m1, ws, ds, R, ps, by rw [List.append_nil], hU, hT, hm, z1.own, z1.as.2, z1.as.1.2, hw, fun v d H' rd kp hu ht hv => ?_⟩
  have x2 : XO O H1 H' := XO.by_ fun a o nm ha => kp a o (fun e => nm (e ▸ hU)) (fun e => nm (e ▸ hT)) ha
  obtain ⟨o, ho, mo⟩ := z1.own U hU
  obtain ⟨o2, ho2, mo2⟩ := z1.own T hT
  obtain ⟨_, _, _, _, _, xs, hx, _⟩ := id hu
  obtain ⟨nTU, ps', hps, _⟩ := id ht
  refine q v d H' (rp d rd) (x1.trans x2) ⟨fun a ma => ?_, z1.sg.ex x2, ⟨?_, ht⟩, hu⟩ hv
  · by_cases e : a = U
    · subst e; exact ⟨_, hx, trivial⟩
    · by_cases e2 : a = T
      · subst e2; exact ⟨_, hps, trivial⟩
      · obtain ⟨o', h', m'⟩ := z1.own a ma
        exact ⟨o', kp a o' e e2 h', m'⟩
  · have g1 := hG H1 (upd H1 U (.lst xs)) (fun b nb => upd_ne nb) (Tk.mut ho mo) z1.as.1.1
    have ho3 : upd H1 U (.lst xs) T = some o2 := (upd_ne nTU).trans ho2
    have g2 := hGT (upd H1 U (.lst xs)) (upd (upd H1 U (.lst xs)) T (.tbl ps')) (fun b nb => upd_ne nb) (Tk.mut ho3 mo2) g1
    refine G.st _ _ (fun a o' h' => ?_) g2
    by_cases e2 : a = T
    · subst e2
      rw [upd_same] at h'
      rw [hps]; exact h'
    · rw [upd_ne e2] at h'
      by_cases e : a = U
      · subst e
        rw [upd_same] at h'
        rw [hx]; exact h'
      · rw [upd_ne e] at h'
        exact kp a o' e e2 h'
end
end NB
end S_NbF

section S_NbD15
set_option Elab.async false
set_option linter.all false
set_option maxRecDepth 100000
set_option maxHeartbeats 4000000
set_option exponentiation.threshold 100000
namespace NB
open PySem PySem.Spec PyProof.Rows L2
local macro_rules | `(tactic| walk_at "vd") => `(tactic| repeat' (first
  | exact vd_var rfl | exact vd_int | exact vd_bl | exact va_nil | exact vba_nil | exact vt_yes
  | with_reducible apply va_cons | with_reducible apply vt_test | with_reducible apply vt_not | with_reducible apply vt_B
  | with_reducible apply vd_tup | with_reducible apply vd_cb | with_reducible apply vd_op | with_reducible apply vd_un
  | exact rd_add | exact rd_ix0 rfl | exact rd_ix1 rfl | exact rd_I0 | exact rd_B0 | exact ru_I
  | exact rg_lenT | exact rg_lenL | exact rc_abs | exact rc_gcd
  | exact Nat.le_of_ble_eq_true rfl))
local macro_rules | `(tactic| walk_at "le") => `(tactic| repeat (first | exact Le.nil | apply Le.same | apply Le.drop))
section
variable {P : Program} {w : World} {K : PySem.W.Frag} {mg : Str → Option Value} {base : Heap}

def fives : List Rat := [rq 0 1, rq 1 1, rq (-1) 1, rq 2 1, rq 1 2]
/-- a drawn source of rows of n numbers -/
structure SpOk (n : Nat) (sp : Spr) : Prop where
  pos : 0 < sp.length
  len : sp.length ≤ 3
  row : ∀ x ∈ sp, x.1.length = n ∧ ∀ q ∈ x.1, q ∈ fives
  bd : ∀ x ∈ sp, Bd 4 x.2
  one : (sp.map (·.2)).sum = 1
def PsprU (ds : List PyData) (R : PyData → Prop) : Prop := ∃ n : Nat, 0 < n ∧ n ≤ 2 ∧ ds = [.int (n : Nat)] ∧ R = fun d => ∃ sp : Spr, SpOk n sp ∧ d = encSp sp
def PovrD (Ov : Fm → List Nat → Spr → List (List Rat) → Prop) (ds : List PyData) (d : PyData) : Prop := ∃ (f : Fm) (lot : List Nat) (sp : Spr) (k : Bool) (rows : List (List Rat)), Ov f lot sp rows ∧ ds = [encF f, encM lot, encSp sp, dk k (rows.map encR)] ∧ d = .bool true
def PrigU (ds : List PyData) (R : PyData → Prop) : Prop := ds = [] ∧ R = fun d => d = .bool true
section
variable {K : PySem.W.Frag} {U : Addr} {m m1 : Nat} {env : List Sl} {tA : TA} {P : PyData → Prop} {PA : List PyData → Prop} {E : XK}
theorem vu_callO {PS : List PyData → PyData → Prop} (h : VUA K U m tA env PA m1) (hp : ∀ ds, PA ds → ∃ d, PS ds d ∧ P d) : VU K U m (tCall (spO K PS) [] E tA) env P m1 := fun O G a b => ve_callO (h O G a b) hp
end
theorem lot_yes (c : Nat → Bool) (i : Nat) : (List.range i).filter c ++ [i] = (List.range (i + 1)).filter fun j => if j = i then true else c j := by
  rw [List.range_succ, List.filter_append]
  congr 1
  · refine List.filter_congr fun j hj => ?_
    rw [List.mem_range] at hj
    rw [if_neg (by omega)]
  · simp
theorem lot_no (c : Nat → Bool) (i : Nat) : (List.range i).filter c = (List.range (i + 1)).filter fun j => if j = i then false else c j := by
  rw [List.range_succ, List.filter_append]
  have : List.filter (fun j => if j = i then false else c j) [i] = [] := by simp
  rw [this, List.append_nil]
  refine List.filter_congr fun j hj => ?_
  rw [List.mem_range] at hj
  rw [if_neg (by omega)]
theorem splits_pos {t n : Nat} (ht : t ≤ 3) (h0 : 0 < n) (h1 : n ≤ 2) : 0 < (splits t n).length := by
  have : ∀ t, t < 4 → 0 < (splits t 1).length ∧ 0 < (splits t 2).length := by decide
  have h := this t (by omega)
  match n, h0, h1 with
  | 1, _, _ => exact h.1
  | 2, _, _ => exact h.2

theorem sc_law_right : FnScope ["_law_urn", "_law_wide", "_law_groups_here", "_law_shows_here", "_law_spring_here", "_law_shape_here", "_law_lot", "_law_at", "_law_rows"] ["_law_urn"] (defScope (topS 51)) := ⟨rfl, rfl, rfl, by decide +kernel, rfl, by decide +kernel, by decide +kernel⟩
theorem cb_law_right {TP : Addr} {tq : Str} {Ov : Fm → List Nat → Spr → List (List Rat) → Prop} (W : Wd K mg) (c__law_groups : Cb P w K mg base "_law_groups" 4 ["_law_urn", "_law_wide"] (spU K 5 PgroU)) (c__law_over_right : Cb P w K mg base "_law_over_right" 13 ["_law_shape_here", "_law_lot", "_law_spring_here", "_law_rows"] (spD K (PovrD Ov))) (c__law_take : Cb P w K mg base "_law_take" 1 ["_law_urn", "_law_low_here"] (spU K 1 PtakU)) (c__law_shows : Cb P w K mg base "_law_shows" 1 ["_law_groups_here"] (spO K PshoD)) (c__law_spring : Cb P w K mg base "_law_spring" 6 ["_law_urn", "_law_wide"] (spT K TP tq 12 PsprU)) (c__law_basis_right : Cb P w K mg base "_law_basis_right" 14 ["_law_urn", "_law_groups_here", "_law_sums"] (spU K 6 PbasU)) (c__law_shape : Cb P w K mg base "_law_shape" 4 ["_law_urn", "_law_shows_here", "_law_wide", "_law_many", "_law_most"] (spU K 66 PshapU)) (c__law_of : Cb P w K mg base "_law_of" 2 ["_law_urn", "_law_some"] (spU K 1 PofU)) (c__law_splits : Cb P w K mg base "_law_splits" 4 ["_law_total", "_law_many"] (spO K (PsplD 4))) (hK : ∀ (n i : Nat) (s : Kd × Nat), 1 ≤ n → n ≤ 2 → 1 ≤ i → i ≤ 2 → s ∈ kst n i → KindOk (kfin s.1) ∧ ShowOk (shows (kfin s.1)) n ∧ ∀ t, 1 ≤ t → t ≤ 3 → ∀ sums ∈ splits t n, BasOk (kfin s.1) sums) (hO : ∀ (n N : Nat) (f : Fm) (sp : Spr) (c : Nat → Bool) (rows : List (List Rat)), 1 ≤ n → n ≤ 2 → 1 ≤ N → N ≤ 3 → FormOk N n f → SpOk n sp → rows.length = N → (∀ r ∈ rows, ∃ x ∈ sp, r = x.1) → Ov f ((List.range N).filter c) sp rows) : Cb P w K mg base "_law_right" 15 ["_law_urn"] (spT K TP tq 100 PrigU) := by
  refine mk_cb W 39 (i := 51) rfl sc_law_right (fun _ _ _ _ _ _ us hl => match us, hl with | [_], _ => rfl) (fun vs H Q E h => ?_) fun f cdv A outer s H vs Q E hr h => ⟨_, PSs.nox (
    (pss_cons (ps_set (i := 1) sc_law_right.nd rfl (by first | exact Or.inl rfl | exact Or.inr rfl) (pe_op (op_addX (K := K) rfl) pe_int (pe_cb c__law_take (hr.mono (by omega)) rfl (pa_cons (pv 0) (pa_cons pe_int pa_nil)))))
  (pss_cons (ps_set (i := 2) sc_law_right.nd rfl (by first | exact Or.inl rfl | exact Or.inr rfl) (pe_cb c__law_groups (hr.mono (by omega)) rfl (pa_cons (pv 0) (pa_cons (pv 1) pa_nil))))
  (pss_cons (ps_asg (pe_tup (pa_cons (pe_cb c__law_shows (hr.mono (by omega)) rfl (pa_cons (pv 2) pa_nil)) (pa_cons (pe_cb c__law_spring (hr.mono (by omega)) rfl (pa_cons (pv 0) (pa_cons (pv 1) pa_nil))) pa_nil))) (pg_tupX (n := 2) (K := K) rfl rfl (pgs_cons (pg_name (i := 3) sc_law_right.nd rfl (by first | exact Or.inl rfl | exact Or.inr rfl)) (pgs_cons (pg_name (i := 4) sc_law_right.nd rfl (by first | exact Or.inl rfl | exact Or.inr rfl)) pgs_nil))))
  (pss_cons (ps_if (pt_not (pt_val (pe_cb c__law_basis_right (hr.mono (by omega)) rfl (pa_cons (pv 0) (pa_cons (pv 2) (pa_cons (pe_cb c__law_of (hr.mono (by omega)) rfl (pa_cons (pv 0) (pa_cons (pe_cb c__law_splits (hr.mono (by omega)) rfl (pa_cons (pe_op (op_addX (K := K) rfl) pe_int (pe_cb c__law_take (hr.mono (by omega)) rfl (pa_cons (pv 0) (pa_cons pe_int pa_nil)))) (pa_cons (pv 1) pa_nil))) pa_nil))) pa_nil)))))) (pss_one (ps_ret pe_bl)) pss_nil)
  (pss_cons (ps_par (i := 5) (j := 6) rfl sc_law_right.nd rfl rfl (by decide) rfl rfl (pa_cons (pe_cb c__law_shape (hr.mono (by omega)) rfl (pa_cons (pv 0) (pa_cons (pv 3) (pa_cons (pv 1) (pa_cons pe_int (pa_cons pe_int pa_nil)))))) (pa_cons (pe_lst pa_nil) pa_nil)) rfl)
  (pss_cons (ps_for PassesOwn.never rfl (pi_range1 rfl (W.free "range") (pa_cons (pe_callB (cr_lenX (K := K) rfl) (by rfl) (W.free "len") (by decide +kernel) (pa_cons (pv 3) pa_nil)) pa_nil)) (pg_name (i := 7) sc_law_right.nd rfl (by first | exact Or.inl rfl | exact Or.inr rfl)) (pss_one (ps_set (i := 6) sc_law_right.nd rfl (by first | exact Or.inl rfl | exact Or.inr rfl) (pe_ifExp (pt_cmpR (op_eqX (K := K) rfl hr.units) (pe_cb c__law_take (hr.mono (by omega)) rfl (pa_cons (pv 0) (pa_cons pe_int pa_nil))) pe_int (nomark _)) (pe_op (op_addX (K := K) rfl) (pv 6) (pe_lst (pa_cons (pv 7) pa_nil))) (pv 6)))))
  (pss_cons (ps_setLc (i := 8) (own := [("_law_at", 7)]) rfl sc_law_right.nd rfl rfl (sw_true rfl rfl rfl (by decide +kernel)) (pi_range1 rfl (W.free "range") (pa_cons (pe_callB (cr_lenX (K := K) rfl) (by rfl) (W.free "len") (by decide +kernel) (pa_cons (pv 3) pa_nil)) pa_nil)) (blkOk_by (N := ["_law_urn", "_law_wide", "_law_groups_here", "_law_shows_here", "_law_spring_here", "_law_shape_here", "_law_lot", "_law_at", "_law_rows"]) (sc := defScope (topS 51)) (by decide +kernel)) (fun _ _ _ _ _ => (pg_name (i := 7) sc_law_right.nd rfl (by first | exact Or.inl rfl | exact Or.inr rfl))) (fun _ _ _ _ _ => pts_nil) (fun _ _ _ _ _ => (pe_ix (ix_seqX (K := K) rfl) (pe_cb c__law_of (hr.mono (by omega)) rfl (pa_cons (pv 0) (pa_cons (pv 4) pa_nil))) pe_int (fun _ _ => rfl))))
  (pss_one (ps_ret (pe_cb c__law_over_right (hr.mono (by omega)) rfl (pa_cons (pv 5) (pa_cons (pe_callTy (cr_tupX (K := K) rfl) (by rfl) (W.free "tuple") (by decide +kernel) (pa_cons (pv 6) pa_nil)) (pa_cons (pv 4) (pa_cons (pv 8) pa_nil))))))))))))))), body_T (fun O F U m ds R p hU hT hTU hm hF hFT hN => ?_) h⟩
  · obtain ⟨O, U, m, ws, ds, R, p, rfl, _, _, _, _, _, _, hd, _⟩ := h
    rw [List.length_cons, hd.len]
    obtain ⟨rfl, rfl⟩ := p
    rfl
  · obtain ⟨rfl, rfl⟩ := p
    have hm' : m + 100 ≤ 1099511627776 := hm
    have hG : (F.and (.tab TP tq U)).Off U := As.off_and hF As.off_tab
    have tk : ∀ (low : Nat), 0 < low → low ≤ 5000 → ∀ (m1 : Nat), m1 + 1 ≤ 1099511627776 → ∀ env : List Sl, env[0]? = some (.v (.ref U)) → VU K U m1 (tCall (spU K 1 PtakU) [] E0 (tCons (tVar 0) (tCons (tC (.int (low : Nat))) tNil))) env (fun d => ∃ k : Nat, k < low ∧ d = .int (k : Nat)) (m1 + 1) := fun low l0 l1 m1 h1 env he =>
      vu_call he (vua_b (ds := [.int (low : Nat)]) (vba_cons (vb_im vd_int rfl) vba_nil)) (fun ds h => by subst h; exact ⟨_, ⟨low, l0, l1, rfl, rfl⟩, fun d hd => hd⟩) h1
    have tk1 : ∀ (low : Nat), 0 < low → low ≤ 5000 → ∀ (m1 : Nat), m1 + 1 ≤ 1099511627776 → ∀ env : List Sl, env[0]? = some (.v (.ref U)) → VU K U m1 (tOp (rAddG K) (tC (.int 1)) (tCall (spU K 1 PtakU) [] E0 (tCons (tVar 0) (tCons (tC (.int (low : Nat))) tNil)))) env (fun d => ∃ k : Nat, 1 ≤ k ∧ k ≤ low ∧ d = .int (k : Nat)) (m1 + 1) := fun low l0 l1 m1 h1 env he =>
      vu_op (vu_b (vb_im (vd_int (i := 1)) rfl)) (tk low l0 l1 m1 h1 env he) fun a b ha hb => by
        obtain ⟨k, hk, rfl⟩ := hb
        subst ha
        exact ⟨.int ((k + 1 : Nat) : Int), ⟨k + 1, by omega, by omega, rfl⟩, rfl, RDD.is rd_add (by congr 1; omega)⟩
    refine vs_seq (vs_asgE (I := fun e => ∃ n : Nat, 1 ≤ n ∧ n ≤ 2 ∧ e = [.v (.ref U), .d (.int (n : Nat)), .no, .no, .no, .no, .no, .no, .no]) (tk1 2 (by omega) (by omega) m (by omega) _ rfl O _ hU hG) fun d hd => ?_) fun e he => ?_
    · obtain ⟨k, h1, h2, rfl⟩ := hd
      exact ⟨_, _, gd_name, k, h1, h2, rfl⟩
    obtain ⟨n, n0, n1, rfl⟩ := he
    refine vs_seq (vs_asgE (I := fun e => ∃ (i : Nat) (s : Kd × Nat), 1 ≤ i ∧ i ≤ 2 ∧ s ∈ kst n i ∧ e = [.v (.ref U), .d (.int (n : Nat)), .d (encG (kfin s.1)), .no, .no, .no, .no, .no, .no]) (vu_call (P := fun d => ∃ (i : Nat) (s : Kd × Nat), 1 ≤ i ∧ i ≤ 2 ∧ s ∈ kst n i ∧ d = encG (kfin s.1)) rfl (vua_b (vba_cons (vb_var rfl) vba_nil)) (fun ds h => ?_) (show m + 1 + 5 ≤ LIM from by unfold LIM; omega) O _ hU hG) fun d hd => ?_) fun e he => ?_
    · subst h
      exact ⟨_, ⟨n, n0, n1, rfl, rfl⟩, fun d hd => hd⟩
    · obtain ⟨i, s, h1, h2, h3, rfl⟩ := hd
      exact ⟨_, _, gd_name, i, s, h1, h2, h3, rfl⟩
    obtain ⟨i, s, i0, i1, hs, rfl⟩ := he
    obtain ⟨kok, sok, bas⟩ := hK n i s n0 n1 i0 i1 hs
    generalize kfin s.1 = g at kok sok bas ⊢
    have imS : imA ((shows g).map encM) = true := imA_map _ im_encM _
    refine vs_seq (vs_asgE (I := fun e => ∃ sp : Spr, SpOk n sp ∧ e = [.v (.ref U), .d (.int (n : Nat)), .d (encG g), .d (.list ((shows g).map encM)), .d (encSp sp), .no, .no, .no, .no]) (ve_tup (vea_cons (ve_z (vz_callO (P := PshoD) (ds := [encG g]) (d := .list ((shows g).map encM)) (vba_cons (vb_var rfl) vba_nil) ⟨g, by have := kok.1; omega, fun x hx => by have := (kok.2.1 x hx).1; omega, rfl, rfl⟩)) (vea_cons (ve_callT (P := fun d => ∃ sp : Spr, SpOk n sp ∧ d = encSp sp) hU hT hF hFT rfl (vea_cons (ve_b (vb_var rfl)) vea_nil) (fun ds h => ?_) (show m + 1 + 5 + 12 ≤ LIM from by unfold LIM; omega)) vea_nil)) fun ds h => ?_) fun ds h => ?_) fun e he => ?_
    · obtain ⟨d, es, rfl, rfl, rfl⟩ := h
      exact ⟨_, ⟨n, n0, n1, rfl, rfl⟩, fun d hd => hd⟩
    · obtain ⟨d, es, rfl, rfl, d2, es2, rfl, ⟨sp, h1, rfl⟩, rfl⟩ := h
      exact Nat.le_of_ble_eq_true rfl
    · obtain ⟨_, rfl, d, es, rfl, rfl, d2, es2, rfl, ⟨sp, h1, rfl⟩, rfl⟩ := h
      exact ⟨_, _, gd_tup (gds_cons gd_name (gds_cons gd_name gds_nil)) rfl, sp, h1, rfl⟩
    obtain ⟨sp, spok, rfl⟩ := he
    refine vs_seq (F1 := (F.and (.tab TP tq U)).and (.urn K U (m + 1 + 5 + 12 + 1 + 1 + 6))) (I := (· = [.v (.ref U), .d (.int (n : Nat)), .d (encG g), .d (.list ((shows g).map encM)), .d (encSp sp), .no, .no, .no, .no])) (vs_ifE (PT := (· = false)) (vet_not (vet_B (P := fun d => d = .bool true) (vu_call (P := fun d => d = .bool true) rfl (vua_cons (vu_b (vb_var rfl)) (vua_cons (vu_call (P := fun d => ∃ sums : List Nat, (∃ t : Nat, 1 ≤ t ∧ t ≤ 3 ∧ sums ∈ splits t n) ∧ d = encM sums) rfl (vua_cons (vu_callO (P := fun d => ∃ t : Nat, 1 ≤ t ∧ t ≤ 3 ∧ d = .list ((splits t n).map encM)) (vua_cons (tk1 3 (by omega) (by omega) _ (by omega) _ rfl) (vua_cons (vu_b (vb_var rfl)) vua_nil)) fun ds h => ?_) vua_nil) (fun ds h => ?_) (show m + 1 + 5 + 12 + 1 + 1 ≤ LIM from by unfold LIM; omega)) vua_nil)) (fun ds h => ?_) (show m + 1 + 5 + 12 + 1 + 1 + 6 ≤ LIM from by unfold LIM; omega) O _ hU hG) fun d hd => ⟨true, hd, rfl⟩)) (fun z => nomatch z) fun _ => vs_next) fun e he => ?_
    · obtain ⟨d, es, rfl, ⟨t, h1, h2, rfl⟩, d2, es2, rfl, rfl, rfl⟩ := h
      exact ⟨_, ⟨t, n, by omega, by omega, by omega, rfl, rfl⟩, t, h1, h2, rfl⟩
    · obtain ⟨d, es, rfl, ⟨t, h1, h2, rfl⟩, rfl⟩ := h
      refine ⟨_, ⟨true, (splits t n).map encM, ?_, ?_, imA_map _ im_encM _, rfl, rfl⟩, fun d hd => ?_⟩
      · rw [List.length_map]; exact splits_pos h2 n0 n1
      · rw [List.length_map]
        have := split64 h2 (by omega : n ≤ 3)
        omega
      · obtain ⟨sums, g1, g2⟩ := List.mem_map.mp hd
        exact ⟨sums, ⟨t, h1, h2, g1⟩, g2.symm⟩
    · obtain ⟨d, es, rfl, rfl, d2, es2, rfl, ⟨sums, ⟨t, h1, h2, h3⟩, rfl⟩, rfl⟩ := h
      exact ⟨_, ⟨g, sums, bas t h1 h2 sums h3, rfl, rfl⟩, fun d hd => hd⟩
    subst he
    let lotd := fun l : List Nat => PyData.list (l.map fun n => .int (n : Nat))
    have N1 : 1 ≤ (shows g).length := sok.1
    have N3 : (shows g).length ≤ 3 := kok.2.2.2
    refine vs_seq (vs_parE (I := fun e => ∃ f : Fm, FormOk (shows g).length n f ∧ e = [.v (.ref U), .d (.int (n : Nat)), .d (encG g), .d (.list ((shows g).map encM)), .d (encSp sp), .d (encF f), .d (lotd ((List.range 0).filter fun _ => true)), .no, .no]) (vea_cons (vu_call (P := fun d => ∃ f : Fm, FormOk (shows g).length n f ∧ d = encF f) rfl (vua_b (ds := [.list ((shows g).map encM), .int (n : Nat), .int 3, .int 3]) (vba_cons (vb_var rfl) (vba_cons (vb_var rfl) (vba_cons (vb_im vd_int rfl) (vba_cons (vb_im vd_int rfl) vba_nil))))) (fun ds h => ?_) (show m + 1 + 5 + 12 + 1 + 1 + 6 + 66 ≤ LIM from by unfold LIM; omega) O _ hU hG) (vea_cons (ve_b (vb_new (vn_lst va_nil (Nat.le_of_ble_eq_true rfl)) rfl)) vea_nil)) fun ds h => ?_) fun e he => ?_
    · subst h
      exact ⟨_, ⟨shows g, n, sok, rfl, rfl⟩, fun d hd => hd⟩
    · obtain ⟨d, es, rfl, ⟨f, h1, rfl⟩, d2, es2, rfl, rfl, rfl⟩ := h
      exact ⟨_, _, rfl, f, h1, rfl⟩
    obtain ⟨f, fok, rfl⟩ := he
    have vr : ∀ env : List Sl, env[3]? = some (.d (.list ((shows g).map encM))) → VI K (iRng1 (tCons (tCB (rLenG K) (tCons (tVar 3) tNil)) tNil)) env ((List.range (shows g).length).map fun i => .int (i : Nat)) := fun env he => by
      have := vi_rng1 (K := K) (j := ((shows g).length : Nat)) (va_cons ((vd_cb (va_cons (vd_var he) va_nil) rg_lenL).is (by rw [List.length_map])) va_nil) (by omega) (by omega)
      rwa [show (((shows g).length : Nat) : Int).toNat = (shows g).length from by simp] at this
    have rl : ∀ ds : List PyData, ds = ((List.range (shows g).length).map fun i => PyData.int (i : Nat)) → ds.length = (shows g).length := fun ds h => by subst h; rw [List.length_map, List.length_range]
    refine vs_seq (vs_forE (F2 := (F.and (.tab TP tq U)).and (.urn K U (m + 95))) (n := (· = (shows g).length)) (I := fun i e => ∃ c, e = [.v (.ref U), .d (.int (n : Nat)), .d (encG g), .d (.list ((shows g).map encM)), .d (encSp sp), .d (encF f), .d (lotd ((List.range i).filter c)), .no, .no]) (Fi := fun i => (F.and (.tab TP tq U)).and (.urn K U (m + 1 + 5 + 12 + 1 + 1 + 6 + 66 + i))) (vei_p (VI.z (vr _ rfl))) ⟨_, ⟨_, rfl⟩, Le.refl _⟩ (fun H h => h) rl (fun i d e ds hp hd he => ?_) fun k hk H h => ⟨h.1, As.urn_mono (by omega) h.2⟩) fun e he => ?_
    · obtain ⟨c, rfl⟩ := he
      have hi : i < (shows g).length := by rw [← rl ds hp]; exact (List.getElem?_eq_some_iff.mp hd).1
      have hd2 : d = .int (i : Nat) := by
        subst hp
        rw [List.getElem?_map, List.getElem?_range hi] at hd
        exact (Option.some.inj hd).symm
      subst hd2
      have fl : ((List.range i).filter c).length ≤ 3 := by
        have := List.length_filter_le c (List.range i)
        rw [List.length_range] at this; omega
      refine ⟨_, _, gd_name, (vs_asgE (I := fun e => ∃ c', e = [.v (.ref U), .d (.int (n : Nat)), .d (encG g), .d (.list ((shows g).map encM)), .d (encSp sp), .d (encF f), .d (lotd ((List.range (i + 1)).filter c')), .d (.int (i : Nat)), .no]) (ve_if (P := fun d => ∃ c', d = lotd ((List.range (i + 1)).filter c')) (PT := fun _ => True) (vet_test (ve_op (P := fun d => ∃ b, d = .bool b) (tk 2 (by omega) (by omega) _ (by omega) _ rfl O _ hU hG) (ve_b (vb_im (vd_int (i := 0)) rfl)) fun a b ha hb => ?_) fun d hd => ?_) (fun _ => VE.le (ve_b (vb_new (ds := (((List.range i).filter c) ++ [i]).map fun n : Nat => .int (n : Nat)) ((vn_cat (vd_var rfl) (VN.dat (vn_lst (va_cons (vd_var rfl) va_nil) (Nat.le_of_ble_eq_true rfl))) ?_).is (by rw [List.map_append]; rfl)) (imA_map _ (fun _ => rfl) _))) (fun d h => ?_) fun H h => h) fun _ => VE.le (ve_b (vb_var rfl)) (fun d h => ?_) fun H h => h) fun d hd => ?_).le (.nx (fun e he => ?_) fun H h => h)⟩
      · obtain ⟨k, _, rfl⟩ := ha
        subst hb
        exact ⟨_, ⟨_, rfl⟩, rfl, rd_eqD rfl rfl⟩
      · obtain ⟨b, rfl⟩ := hd
        exact ⟨b, rfl, trivial⟩
      · rw [List.length_map]
        show _ + 1 ≤ 100000
        omega
      · rw [lot_yes] at h
        exact ⟨_, h⟩
      · rw [lot_no] at h
        exact ⟨_, h⟩
      · obtain ⟨c', rfl⟩ := hd
        exact ⟨_, _, gd_name, c', rfl⟩
      · obtain ⟨c', rfl⟩ := he
        exact ⟨_, ⟨c', rfl⟩, .same (.same (.same (.same (.same (.same (.same (.drop (Le.refl _))))))))⟩
    obtain ⟨_, rfl, c, rfl⟩ := he
    refine vs_seq (vs_asgE (I := fun e => ∃ rows : List (List Rat), rows.length = (shows g).length ∧ (∀ r ∈ rows, ∃ x ∈ sp, r = x.1) ∧ e = [.v (.ref U), .d (.int (n : Nat)), .d (encG g), .d (.list ((shows g).map encM)), .d (encSp sp), .d (encF f), .d (lotd ((List.range (shows g).length).filter c)), .no, .d (.list (rows.map encR))]) (ve_lc (m2 := m + 100) (PA := (· = (List.range (shows g).length).map fun i => PyData.int (i : Nat))) (P := fun d => ∃ r : List Rat, (∃ x ∈ sp, r = x.1) ∧ d = encR r) (fun i => m + 95 + i) hU hG (vei_p (VI.z (vr _ rfl))) (fun ds h => ?_) (fun d h => ?_) fun i d ds h hd => ⟨_, _, gd_name, by simp, ?_⟩) fun d hd => ?_) fun e he => ?_
    · have := rl ds h
      exact ⟨by omega, by omega⟩
    · obtain ⟨r, _, rfl⟩ := h
      exact im_encR r
    · have hi : i < (shows g).length := by rw [← rl ds h]; exact (List.getElem?_eq_some_iff.mp hd).1
      refine vu_op (vu_call (P := fun d => ∃ x ∈ sp, d = encSp1 x) rfl (vua_b (ds := [encSp sp]) (vba_cons (vb_var rfl) vba_nil)) (fun ds h => ?_) (by unfold LIM; omega)) (vu_b (vb_im (vd_int (i := 0)) rfl)) fun a b ha hb => ?_
      · subst h
        refine ⟨_, ⟨false, sp.map encSp1, by rw [List.length_map]; exact spok.pos, by rw [List.length_map]; have := spok.len; omega, imA_map _ im_encSp1 _, rfl, rfl⟩, fun d hd => ?_⟩
        obtain ⟨x, g1, g2⟩ := List.mem_map.mp hd
        exact ⟨x, g1, g2.symm⟩
      · obtain ⟨x, hx, rfl⟩ := ha
        subst hb
        exact ⟨encR x.1, ⟨x.1, ⟨x, hx, rfl⟩, rfl⟩, im_encR _, rd_ix0 rfl⟩
    · obtain ⟨os, dd, rfl, rfl, hl, ho⟩ := hd
      obtain ⟨rows, rfl, hr⟩ := ex_map ho
      rw [List.length_map, List.length_map, List.length_range] at hl
      exact ⟨_, _, gd_name, rows, hl, hr, rfl⟩
    obtain ⟨rows, r1, r2, rfl⟩ := he
    refine (vs_ret (d := .bool true) (vb_im (vd_call (P := PovrD Ov) (ds := [encF f, encM ((List.range (shows g).length).filter c), encSp sp, dk true (rows.map encR)]) (va_cons (vd_var rfl) (va_cons (vd_cb (va_cons (vd_var rfl) va_nil) rg_tupL) (va_cons (vd_var rfl) (va_cons (vd_var rfl) va_nil)))) ⟨f, _, sp, true, rows, hO n _ f sp c rows n0 n1 N1 N3 fok spok r1 r2, rfl, rfl⟩) rfl)).le (.rt (fun d h => h) fun H h => h)
end
end NB
end S_NbD15

section S_NbD16
set_option Elab.async false
set_option linter.all false
set_option maxRecDepth 100000
set_option maxHeartbeats 4000000
set_option exponentiation.threshold 100000
namespace NB
open PySem PySem.Spec PyProof.Rows L2
open Evl (Ex)
local macro_rules | `(tactic| walk_at "vd") => `(tactic| repeat' (first
  | exact vd_var rfl | exact vd_int | exact vd_bl | exact va_nil | exact vba_nil | exact vt_yes
  | with_reducible apply va_cons | with_reducible apply vt_test | with_reducible apply vt_not | with_reducible apply vt_B
  | with_reducible apply vd_tup | with_reducible apply vd_cb | with_reducible apply vd_op | with_reducible apply vd_un
  | exact rd_add | exact rd_ix0 rfl | exact rd_ix1 rfl | exact rd_I0 | exact rd_B0 | exact ru_I
  | exact rg_lenT | exact rg_lenL | exact rc_abs | exact rc_gcd
  | exact Nat.le_of_ble_eq_true rfl))
local macro_rules | `(tactic| walk_at "le") => `(tactic| repeat (first | exact Le.nil | apply Le.same | apply Le.drop))
section
variable {P : Program} {w : World} {K : PySem.W.Frag} {mg : Str → Option Value} {base : Heap}

def PbyD (ds : List PyData) (d : PyData) : Prop := ds = [] ∧ d = .bool true
def spL (T : Addr) : Sp := fun vs H Q _ => ∃ (is : List Int) (a : Addr), vs = [.ref a] ∧ H a = some (.lst (is.map .int)) ∧ H T = some (.tbl #[]) ∧ ∀ H', Q (.bl true) H'
def As.tb0 (T : Addr) : As := ⟨fun H => H T = some (.tbl #[]), fun _ _ e h => e _ _ h⟩
theorem dta_int {K : PySem.W.Frag} {H : Hp} : ∀ is : List Int, DtA K H (is.map .int) (is.map .int)
  | [] => .nil
  | _ :: is => .cons (.int _) (dta_int is)
section
variable {K : PySem.W.Frag} {O : List Addr} {F F1 : As} {env : List Sl} {ta tb : TE} {P : PyData → Prop} {T : Addr} {tq : Str} {E : XK} {k : Nat}
theorem ve_andV (h1 : VB K ta env (.bool true)) (h2 : VE K O F tb env P F1) : VE K O F (tAndV ta tb) env P F1 := fun σ H z Q q => h1 σ _ z.sg H (Bs_sub _ _) _ fun v H2 e2 hv => by
  have hv2 := hv _ (z.bok e2)
  rw [dt_bool hv2]
  exact ⟨true, rfl, h2 σ H2 (z.ex e2) Q fun v d H3 p x z3 hv => q v d H3 p ((XO.of e2).trans x) z3 hv⟩
theorem ve_callR {a b : Int} (h : VN K ta env [.int a, .int b, .int 0]) (hk : k ≤ LIM) : VE K [T] (As.tb0 T) (tCall (spT K T tq k PrigU) [] E (tCons ta tNil)) env (· = .bool true) As.emp := fun σ H z Q q =>
  h σ H z.s H (Ex.refl _) _ fun p xs H2 hp e2 hx hd => by
    have z2 := z.ex e2
    have hT : H2 T = some (.tbl #[]) := z2.as
    have pT : T ≠ p := fun e => by rw [e, hx] at hT; cases hT
    refine ⟨[p, T], p, 0, [], [], fun d => d = .bool true, ⟨rfl, rfl⟩, rfl, by simp, by simp, by rw [Nat.zero_add]; exact hk, fun a ma => ?_, ⟨a, b, 0, Int.le_refl _, by simp, xs, hx, hd⟩, ⟨pT, #[], hT, True.intro, fun pos cv hc => ?_⟩, .nil, fun v d H' rd kp hu ht hv => ?_⟩
    · rcases List.mem_cons.mp ma with e | ma
      · subst e; exact ⟨_, hx, trivial⟩
      · rw [List.mem_singleton.mp ma]; exact ⟨_, hT, trivial⟩
    · have zz : codeAmong pos [] = some cv := hc
      simp [codeAmong] at zz
    · have xo : XO [T] H H' := XO.by_ fun c o nc hc => kp c o (fun e => by subst e; rw [hp] at hc; cases hc) (fun e => nc (by rw [e]; simp)) (e2 _ _ hc)
      obtain ⟨_, ps, hps, _⟩ := ht
      exact q v d H' rd xo ⟨fun a ma => by rw [List.mem_singleton.mp ma]; exact ⟨_, hps, trivial⟩, z.sg.ex xo, trivial⟩ (Dt.ex (Bs_in (Bs_sub _ _) fun b m => Bs_none (by rw [List.mem_singleton.mp m]; simp)) _ _ hv)
end

theorem sc_law : FnScope ["_law_script"] ["_law_script"] (defScope (topS 52)) := ⟨rfl, rfl, rfl, by decide +kernel, rfl, by decide +kernel, by decide +kernel⟩
theorem cb_law {TP : Addr} {tq : Str} (W : Wd K mg) (c__law_by_hand_right : Cb P w K mg base "_law_by_hand_right" 14 [] (spD K PbyD)) (c__law_right : Cb P w K mg base "_law_right" 15 ["_law_urn"] (spT K TP tq 100 PrigU)) (c__law_box : Cb P w K mg base "_law_box" 1 ["_law_script", "_law_at"] (spN K PboxN)) (c__law_cells : Cb P w K mg base "_law_cells" 1 ["_law_script", "_law_roof"] (spN K PcelN)) : Cb P w K mg base "law" 16 ["_law_script"] (spL TP) := by
  refine mk_cb W 40 (i := 52) rfl sc_law (fun _ _ _ _ _ _ us hl => match us, hl with | [_], _ => rfl) (fun vs H Q E h => ?_) fun f cdv A outer s H vs Q E hr h => ⟨_, PSs.nox (
    (pss_one (ps_ret (pe_and (pe_cb0 c__law_by_hand_right (hr.mono (by omega)) rfl) (pe_one (pe_cb c__law_right (hr.mono (by omega)) rfl (pa_cons (pe_cb c__law_box (hr.mono (by omega)) rfl (pa_cons (pe_cb c__law_cells (hr.mono (by omega)) rfl (pa_cons (pv 0) (pa_cons pe_int pa_nil))) (pa_cons pe_int pa_nil))) pa_nil))))))), ?_⟩
  · obtain ⟨is, a, rfl, _⟩ := h
    rfl
  · obtain ⟨is, a, rfl, ha, hT, q⟩ := h
    have aT : a ≠ TP := fun e => by rw [e, hT] at ha; cases ha
    refine (vs_retE (K := K) (O := [TP]) (F := As.tb0 TP) (P := fun d => d = .bool true) (F1 := As.emp) (env := enter ["_law_script"] [.list (is.map .int)]) (ve_andV (vb_im (vd_call (P := PbyD) va_nil ⟨rfl, rfl⟩) rfl) (ve_callR (vn_call (PN := PboxN) (va_cons (VN.dat (vn_call (PN := PcelN) (va_cons (vd_var rfl) (va_cons vd_int va_nil)) ⟨is, rfl, rfl⟩)) (va_cons vd_int va_nil)) ⟨_, rfl, rfl⟩) (by decide)))) _ _ H ⟨fun b mb => by rw [List.mem_singleton.mp mb]; exact ⟨_, hT, trivial⟩, Sg.start (.cons (.lst (by rw [Bs_out (by simpa using aT)]; exact ha) (dta_int is)) .nil), hT⟩ fun v d H' p x f hv => ?_
    subst p
    rw [dt_bool hv]
    exact q H'
end
end NB
end S_NbD16

section S_NbD17
set_option Elab.async false
set_option linter.all false
set_option maxRecDepth 100000
set_option maxHeartbeats 4000000
set_option exponentiation.threshold 100000
namespace NB
open PySem PySem.Spec PyProof.Rows L2
local macro_rules | `(tactic| walk_at "vd") => `(tactic| repeat' (first
  | exact vd_var rfl | exact vd_int | exact vd_bl | exact va_nil | exact vba_nil | exact vt_yes
  | with_reducible apply va_cons | with_reducible apply vt_test | with_reducible apply vt_not | with_reducible apply vt_B
  | with_reducible apply vd_tup | with_reducible apply vd_cb | with_reducible apply vd_op | with_reducible apply vd_un
  | exact rd_add | exact rd_ix0 rfl | exact rd_ix1 rfl | exact rd_I0 | exact rd_B0 | exact ru_I
  | exact rg_lenT | exact rg_lenL | exact rc_abs | exact rc_gcd
  | exact Nat.le_of_ble_eq_true rfl))
local macro_rules | `(tactic| walk_at "le") => `(tactic| repeat (first | exact Le.nil | apply Le.same | apply Le.drop))
section
variable {P : Program} {w : World} {K : PySem.W.Frag} {mg : Str → Option Value} {base : Heap}

theorem rg_listK {K : PySem.W.Frag} {k : Bool} {ds : List PyData} : RCN K (rListG K) [dk k ds] ds := by
  cases k with
  | true => exact rg_listL
  | false => exact rg_listT
/-- len(sorted(set(e))), e a list of pairwise distinct powers -/
def tLenS (K : PySem.W.Frag) (te : TE) : TE := fun σ H Q => te σ H fun v H1 => ∃ (p : Addr) (xs : List V) (ks : List Pw), v = .ref p ∧ H1 p = some (.lst xs) ∧ DtA K H1 xs (ks.map encP) ∧ ks.Nodup ∧ ks.length ≤ 4 ∧ Q (.int ks.length) H1
def SetRule (P : Program) (w : World) (K : PySem.W.Frag) : Prop := ∀ (X : Cx) (p1 p2 p3 c1 c2 c3 : Pos) (e : Expr) (te : TE), X.K = K → X.prog = P → X.w = w → X.calm = true → X.A.units + 64 < cLine → Gl X "len" → Gl X "sorted" → Gl X "set" → X.mg "len" = none → X.mg "sorted" = none → X.mg "set" = none → PE X e te → starEach [e] X.env = (false, eval e X.env) :: starEach [] X.env → PE X (.Call (.Name "len" p1) [.Call (.Name "sorted" p2) [.Call (.Name "set" p3) [e] [] c3] [] c2] [] c1) (tLenS K te)
theorem vd_lenS {K : PySem.W.Frag} {env : List Sl} {te : TE} {ks : List Pw} (h : VD K te env (.list (ks.map encP))) (hn : ks.Nodup) (hl : ks.length ≤ 4) : VD K (tLenS K te) env (.int (ks.length : Nat)) := fun σ B s H1 e Q q => h σ B s H1 e _ fun v H2 e2 hv => by
  obtain ⟨p, xs, rfl, hp, hx⟩ := dt_lst hv
  exact ⟨p, xs, ks, rfl, hp, hx, hn, hl, q _ H2 e2 (.int _)⟩
def mix (rows : List (List Rat)) (lot : List Nat) (d : List (List Rat)) : List (List Rat) := (lot.zip d).foldl (fun m q => m.set q.1 q.2) rows
def otot (sp : Spr) (rows : List (List Rat)) (told : List (Pw × Fm)) : Rat := told.foldl (fun t x => t + met x.2 sp * worth [(x.1, 1)] rows) 0
def ogoal (f : Fm) (lot : List Nat) (rows : List (List Rat)) (ds : Drw) : Rat := ds.foldl (fun t x => t + x.2 * worth f (mix rows lot x.1)) 0
structure OvOk (f : Fm) (lot : List Nat) (sp : Spr) (rows : List (List Rat)) : Prop where
  fmo : PmoD [encF f, encM lot] (encT (mo f lot))
  ftl : (mo f lot).length ≤ 4
  fsr : srt encP ((mo f lot).map (·.1)) = (mo f lot).map (·.1)
  fnd : ((mo f lot).map (·.1)).Nodup
  fne : ∀ x ∈ mo f lot, x.2 ≠ [] ∧ ∀ a ∈ lot, ∃ m, x.1[a]? = some m ∧ m.sum = 0
  fme : ∀ x ∈ mo f lot, PmetD [encF x.2, encSp sp] (encQ (met x.2 sp))
  fwo : ∀ x ∈ mo f lot, ∀ k, PworD [encF [(x.1, 1)], dk k (rows.map encR)] (encQ (worth [(x.1, 1)] rows))
  fmb : ∀ x ∈ mo f lot, Bd 4000 (met x.2 sp) ∧ Bd 4000 (worth [(x.1, 1)] rows) ∧ Bd 4000 (met x.2 sp * worth [(x.1, 1)] rows)
  ftb : ∀ i, Bd 4000 (otot sp rows ((mo f lot).take i))
  fdr : PdrwD [encSp sp, .int (lot.length : Nat)] (.list ((drw sp lot.length).map encD1))
  fll : lot.length ≤ 3
  fla : ∀ a ∈ lot, a < rows.length
  frl : rows.length ≤ 10
  fwm : ∀ x ∈ drw sp lot.length, PworD [encF f, .list ((mix rows lot x.1).map encR)] (encQ (worth f (mix rows lot x.1)))
  fgm : ∀ x ∈ drw sp lot.length, Bd 4000 x.2 ∧ Bd 4000 (worth f (mix rows lot x.1)) ∧ Bd 4000 (x.2 * worth f (mix rows lot x.1))
  fgb : ∀ i, Bd 4000 (ogoal f lot rows ((drw sp lot.length).take i))
  feq : otot sp rows (mo f lot) = ogoal f lot rows (drw sp lot.length)
theorem mix_len (lot : List Nat) (d : List (List Rat)) (rows : List (List Rat)) : ∀ i, (((lot.zip d).take i).foldl (fun m q => m.set q.1 q.2) rows).length = rows.length
  | 0 => rfl
  | i + 1 => by
    cases e : (lot.zip d)[i]? with
    | none =>
      rw [List.take_add_one, e]
      simpa using mix_len lot d rows i
    | some q => rw [fold_take _ _ _ e, List.length_set]; exact mix_len lot d rows i

theorem sc_law_over_right : FnScope ["_law_shape_here", "_law_lot", "_law_spring_here", "_law_rows", "_law_told", "_law_total", "_law_own", "_law_powers_here", "_law_hope", "_law_at", "_law_goal", "_law_drawn_here", "_law_chance", "_law_mixed", "_law_row"] ["_law_shape_here", "_law_lot", "_law_spring_here", "_law_rows"] (defScope (topS 49)) := ⟨rfl, rfl, rfl, by decide +kernel, rfl, by decide +kernel, by decide +kernel⟩
theorem cb_law_over_right (W : Wd K mg) (c__law_drawn : Cb P w K mg base "_law_drawn" 3 ["_law_spring_here", "_law_size"] (spD K PdrwD)) (c_mean_over : Cb P w K mg base "mean_over" 12 ["form", "lot"] (spD K PmoD)) (c__law_add : Cb P w K mg base "_law_add" 2 ["_law_one", "_law_two"] (spD K PaddD)) (c__law_mul : Cb P w K mg base "_law_mul" 2 ["_law_one", "_law_two"] (spD K PmulD)) (c__law_met : Cb P w K mg base "_law_met" 4 ["_law_hope", "_law_spring_here"] (spD K PmetD)) (c__law_worth : Cb P w K mg base "_law_worth" 4 ["_law_shape_here", "_law_rows"] (spD K PworD)) (SR : SetRule P w K) : Cb P w K mg base "_law_over_right" 13 ["_law_shape_here", "_law_lot", "_law_spring_here", "_law_rows"] (spD K (PovrD OvOk)) := by
  refine mk_cb W 37 (i := 49) rfl sc_law_over_right (fun _ _ _ _ _ _ us hl => match us, hl with | [_, _, _, _], _ => rfl) (fun vs H Q E h => ?_) fun f cdv A outer s H vs Q E hr h => ⟨_, PSs.nox (
    (pss_cons (ps_par (i := 4) (j := 5) rfl sc_law_over_right.nd rfl rfl (by decide) rfl rfl (pa_cons (pe_cb c_mean_over (hr.mono (by omega)) rfl (pa_cons (pv 0) (pa_cons (pv 1) pa_nil))) (pa_cons (pe_tup (pa_cons pe_int (pa_cons pe_int pa_nil))) pa_nil)) rfl)
  (pss_cons (ps_if (PW.pt (pw_or (pt_not (pt_val (pe_callB (cr_isiX (K := K) rfl) (by rfl) (W.free "isinstance") (by decide +kernel) (pa_cons (pv 4) (pa_cons (pe_bltn (v := .ty "tuple") (u := .type "tuple") rfl (W.free "tuple") (by decide +kernel) rfl) pa_nil))))) (pw_or1 (pt_cmpR (op_neX (K := K) rfl hr.units) (pe_lc (own := [("_law_own", 6)]) rfl sc_law_over_right.nd (pi_seqX (K := K) rfl (pv 4)) (blkOk_by (N := ["_law_shape_here", "_law_lot", "_law_spring_here", "_law_rows", "_law_told", "_law_total", "_law_own", "_law_powers_here", "_law_hope", "_law_at", "_law_goal", "_law_drawn_here", "_law_chance", "_law_mixed", "_law_row"]) (sc := defScope (topS 49)) (by decide +kernel)) (fun _ _ _ _ _ => (pg_name (i := 6) sc_law_over_right.nd rfl (by first | exact Or.inl rfl | exact Or.inr rfl))) (fun _ _ _ _ _ => pts_nil) (fun _ _ _ _ _ => (pe_ix (ix_seqX (K := K) rfl) (pv 6) pe_int (fun _ _ => rfl)))) (pe_callB (cr_sortLX (K := K) rfl hr.units) (by rfl) (W.free "sorted") (by decide +kernel) (pa_cons (pe_lc (own := [("_law_own", 6)]) rfl sc_law_over_right.nd (pi_seqX (K := K) rfl (pv 4)) (blkOk_by (N := ["_law_shape_here", "_law_lot", "_law_spring_here", "_law_rows", "_law_told", "_law_total", "_law_own", "_law_powers_here", "_law_hope", "_law_at", "_law_goal", "_law_drawn_here", "_law_chance", "_law_mixed", "_law_row"]) (sc := defScope (topS 49)) (by decide +kernel)) (fun _ _ _ _ _ => (pg_name (i := 6) sc_law_over_right.nd rfl (by first | exact Or.inl rfl | exact Or.inr rfl))) (fun _ _ _ _ _ => pts_nil) (fun _ _ _ _ _ => (pe_ix (ix_seqX (K := K) rfl) (pv 6) pe_int (fun _ _ => rfl)))) pa_nil)) (nomark _))))) (pss_one (ps_ret pe_bl)) pss_nil)
  (pss_cons (ps_for PassesOwn.never rfl (pi_seqX (K := K) rfl (pv 4)) (pg_tupX (n := 2) (K := K) rfl rfl (pgs_cons (pg_name (i := 7) sc_law_over_right.nd rfl (by first | exact Or.inl rfl | exact Or.inr rfl)) (pgs_cons (pg_name (i := 8) sc_law_over_right.nd rfl (by first | exact Or.inl rfl | exact Or.inr rfl)) pgs_nil))) (pss_cons (ps_if (PW.pt (pw_or (pt_cmpR (op_eqX (K := K) rfl hr.units) (pv 8) (pe_tup pa_nil) (nomark _)) (pw_or1 (pt_val (pe_callB (cr_anyX (K := K) rfl rfl) (by rfl) (W.free "any") (by decide +kernel) (pa_cons (pe_lc (own := [("_law_at", 9)]) rfl sc_law_over_right.nd (pi_seqX (K := K) rfl (pv 1)) (blkOk_by (N := ["_law_shape_here", "_law_lot", "_law_spring_here", "_law_rows", "_law_told", "_law_total", "_law_own", "_law_powers_here", "_law_hope", "_law_at", "_law_goal", "_law_drawn_here", "_law_chance", "_law_mixed", "_law_row"]) (sc := defScope (topS 49)) (by decide +kernel)) (fun _ _ _ _ _ => (pg_name (i := 9) sc_law_over_right.nd rfl (by first | exact Or.inl rfl | exact Or.inr rfl))) (fun _ _ _ _ _ => pts_nil) (fun _ _ _ _ _ => (pe_cmpR op_gt (pe_callB (cr_sumX (K := K) rfl rfl) (by rfl) (W.free "sum") (by decide +kernel) (pa_cons (pe_ix (ix_seqX (K := K) rfl) (pv 7) (pv 9) (fun _ _ => rfl)) pa_nil)) pe_int (nomark _)))) pa_nil)))))) (pss_one (ps_ret pe_bl)) pss_nil)
  (pss_one (ps_set (i := 5) sc_law_over_right.nd rfl (by first | exact Or.inl rfl | exact Or.inr rfl) (pe_cb c__law_add (hr.mono (by omega)) rfl (pa_cons (pv 5) (pa_cons (pe_cb c__law_mul (hr.mono (by omega)) rfl (pa_cons (pe_cb c__law_met (hr.mono (by omega)) rfl (pa_cons (pv 8) (pa_cons (pv 2) pa_nil))) (pa_cons (pe_cb c__law_worth (hr.mono (by omega)) rfl (pa_cons (pe_tup (pa_cons (pe_tup (pa_cons (pv 7) (pa_cons (pe_tup (pa_cons pe_int (pa_cons pe_int pa_nil))) pa_nil))) pa_nil)) (pa_cons (pv 3) pa_nil))) pa_nil))) pa_nil)))))))
  (pss_cons (ps_set (i := 10) sc_law_over_right.nd rfl (by first | exact Or.inl rfl | exact Or.inr rfl) (pe_tup (pa_cons pe_int (pa_cons pe_int pa_nil))))
  (pss_cons (ps_for PassesOwn.never rfl (pi_seqX (K := K) rfl (pe_cb c__law_drawn (hr.mono (by omega)) rfl (pa_cons (pv 2) (pa_cons (pe_callB (cr_lenX (K := K) rfl) (by rfl) (W.free "len") (by decide +kernel) (pa_cons (pv 1) pa_nil)) pa_nil)))) (pg_tupX (n := 2) (K := K) rfl rfl (pgs_cons (pg_name (i := 11) sc_law_over_right.nd rfl (by first | exact Or.inl rfl | exact Or.inr rfl)) (pgs_cons (pg_name (i := 12) sc_law_over_right.nd rfl (by first | exact Or.inl rfl | exact Or.inr rfl)) pgs_nil))) (pss_cons (ps_set (i := 13) sc_law_over_right.nd rfl (by first | exact Or.inl rfl | exact Or.inr rfl) (pe_callTy (cr_listX (K := K) rfl) (by rfl) (W.free "list") (by decide +kernel) (pa_cons (pv 3) pa_nil)))
  (pss_cons (ps_for PassesOwn.never rfl (pi_zipX (K := K) rfl rfl (W.free "zip") (pa_cons (pv 1) (pa_cons (pv 11) pa_nil))) (pg_tupX (n := 2) (K := K) rfl rfl (pgs_cons (pg_name (i := 9) sc_law_over_right.nd rfl (by first | exact Or.inl rfl | exact Or.inr rfl)) (pgs_cons (pg_name (i := 14) sc_law_over_right.nd rfl (by first | exact Or.inl rfl | exact Or.inr rfl)) pgs_nil))) (pss_one (ps_asg (pv 14) (pg_sub (pv 13) (pv 9) set_list))))
  (pss_one (ps_set (i := 10) sc_law_over_right.nd rfl (by first | exact Or.inl rfl | exact Or.inr rfl) (pe_cb c__law_add (hr.mono (by omega)) rfl (pa_cons (pv 10) (pa_cons (pe_cb c__law_mul (hr.mono (by omega)) rfl (pa_cons (pv 12) (pa_cons (pe_cb c__law_worth (hr.mono (by omega)) rfl (pa_cons (pv 0) (pa_cons (pv 13) pa_nil))) pa_nil))) pa_nil))))))))
  (pss_one (ps_ret (pe_and (pe_cmpR (op_eqX (K := K) rfl hr.units) (pv 5) (pv 10) (nomark _)) (pe_one (pe_cmpR (op_eqX (K := K) rfl hr.units) (SR _ _ _ _ _ _ _ _ _ rfl rfl rfl rfl hr.units (by rfl) (by rfl) (by rfl) (W.free "len") (W.free "sorted") (W.free "set") (pe_lc (own := [("_law_own", 6)]) rfl sc_law_over_right.nd (pi_seqX (K := K) rfl (pv 4)) (blkOk_by (N := ["_law_shape_here", "_law_lot", "_law_spring_here", "_law_rows", "_law_told", "_law_total", "_law_own", "_law_powers_here", "_law_hope", "_law_at", "_law_goal", "_law_drawn_here", "_law_chance", "_law_mixed", "_law_row"]) (sc := defScope (topS 49)) (by decide +kernel)) (fun _ _ _ _ _ => (pg_name (i := 6) sc_law_over_right.nd rfl (by first | exact Or.inl rfl | exact Or.inr rfl))) (fun _ _ _ _ _ => pts_nil) (fun _ _ _ _ _ => (pe_ix (ix_seqX (K := K) rfl) (pv 6) pe_int (fun _ _ => rfl)))) (by rfl)) (pe_callB (cr_lenX (K := K) rfl) (by rfl) (W.free "len") (by decide +kernel) (pa_cons (pv 4) pa_nil)) (nomark _)))))))))))), body_D (F := As.emp) (fun ds d p => ?_) h⟩
  · obtain ⟨ds, d, p, hd, _⟩ := h
    rw [hd.len]
    obtain ⟨f, lot, sp, k, rows, ok, rfl, rfl⟩ := p
    rfl
  · obtain ⟨f, lot, sp, k, rows, ok, rfl, rfl⟩ := p
    obtain ⟨hmo, htl, hsr, hnd, hne, hme, hwo, hmb, htb, hdr, hll, hla, hrl, hwm, hgm, hgb, heq⟩ := ok
    generalize htold : mo f lot = told at *
    refine vs_seq1 (vs_par (a := encT told) (b := encQ 0) (vba_cons (vb_im (vd_call (P := PmoD) (va_cons (vd_var rfl) (va_cons (vd_var rfl) va_nil)) hmo) (im_encT _)) (vba_cons (vb_im (show VD K _ _ (encQ 0) from vd_tup (va_cons vd_int (va_cons vd_int va_nil)) (Nat.le_of_ble_eq_true rfl)) (im_encQ 0)) vba_nil))) ?_
    refine vs_seq1 (vs_ifF ((vt_or (a := false) (b := false) ((vt_not (vt_B (vd_isi (vd_var (d := encT told) rfl)))).is rfl) fun _ => (vt_test (vd_op (VN.dat (vn_lc (ds := told.map encT1) (os := (told.map (·.1)).map encP) (vi_seqT (vb_var rfl)) (by rw [List.length_map, List.length_map]; omega) (by rw [List.map_map]; exact lc_map fun x hx => ⟨_, _, gd_name, by simp, vt_yes, vb_im (d := encP x.1) (vd_op (vd_var rfl) vd_int (rd_ix0 rfl)) (im_encP _)⟩))) (VN.dat ((vn_cb (va_cons (VN.dat (vn_lc (ds := told.map encT1) (os := (told.map (·.1)).map encP) (vi_seqT (vb_var rfl)) (by rw [List.length_map, List.length_map]; omega) (by rw [List.map_map]; exact lc_map fun x hx => ⟨_, _, gd_name, by simp, vt_yes, vb_im (d := encP x.1) (vd_op (vd_var rfl) vd_int (rd_ix0 rfl)) (im_encP _)⟩))) va_nil) (rcn_sortL (sok_P (by rw [List.length_map]; omega)))).is (by rw [sortD_map, hsr]))) (rd_neD (sh_map cl_P dp_P (by decide) _) (sh_map cl_P dp_P (by decide) _)))).is ?_).is rfl) vs_next) ?_
    · rw [PyData.eqv, eqvAll_map eqv_P]; simp
    have tt := fun i => htb i
    refine vs_seq1 (vs_forC (f := encT1) (xs := told) (fun i => [.d (encF f), .d (encM lot), .d (encSp sp), .d (dk k (rows.map encR)), .d (encT told), .d (encQ (otot sp rows (told.take i))), .no, .no, .no, .no, .no, .no, .no, .no, .no]) (vi_seqT (vb_var rfl)) (Le.refl _) fun i x hx => ?_) ?_
    · have xm := List.mem_of_getElem? hx
      obtain ⟨n1, n2⟩ := hne x xm
      obtain ⟨b1, b2, b3⟩ := hmb x xm
      refine ⟨_, _, _, gd_tup (gds_cons gd_name (gds_cons gd_name gds_nil)) rfl, vs_seq1 (vs_ifF ((vt_or (a := false) (b := false) ((vt_test (vd_op (vd_var rfl) (vd_tup va_nil (Nat.le_of_ble_eq_true rfl)) (rd_eqD (sh_F _) rfl))).is (by rw [eqv_nil]; exact decide_eq_false n1)) fun _ => (vt_B ((vd_cb (va_cons (VN.dat (vn_lc (ds := lot.map fun n => .int (n : Nat)) (os := (lot.map fun _ => false).map .bool) (vi_seqT (vb_var rfl)) (by rw [List.length_map, List.length_map]; omega) ?_)) va_nil) rc_anyL).is ?_))).is rfl) vs_next) (vs_asg0 (d := encQ (otot sp rows (told.take (i + 1)))) (VD.is (vd_call (P := PaddD) (va_cons (vd_var rfl) (va_cons (vd_call (P := PmulD) (va_cons (vd_call (P := PmetD) (va_cons (vd_var rfl) (va_cons (vd_var rfl) va_nil)) (hme x xm)) (va_cons (vd_call (P := PworD) (va_cons (show VD K _ _ (encF [(x.1, 1)]) from vd_tup (va_cons (show VD K _ _ (encF1 (x.1, 1)) from vd_tup (va_cons (vd_var rfl) (va_cons (show VD K _ _ (encQ 1) from vd_tup (va_cons vd_int (va_cons vd_int va_nil)) (Nat.le_of_ble_eq_true rfl)) va_nil)) (Nat.le_of_ble_eq_true rfl)) va_nil) (Nat.le_of_ble_eq_true rfl)) (va_cons (vd_var rfl) va_nil)) (hwo x xm k)) va_nil)) ⟨_, _, b1, b2, rfl, rfl⟩) va_nil)) ⟨_, _, tt i, b3, rfl, rfl⟩) ?_) gd_name), ?_⟩
      · rw [List.map_map]
        refine lc_map fun a ha => ?_
        obtain ⟨mm, m1, m2⟩ := n2 a ha
        refine ⟨_, _, gd_name, by simp, vt_yes, vb_im ((vd_op (vd_cb (va_cons (vd_op (vd_var rfl) (vd_var rfl) (rd_ix (n := a) (d := encM mm) (by rw [List.getElem?_map, m1]; rfl))) va_nil) rc_sumM) vd_int rd_B0).is ?_) rfl⟩
        rw [m2]; rfl
      · congr 1
        rw [List.any_eq_false]
        intro b hb
        obtain ⟨_, _, rfl⟩ := List.mem_map.mp hb
        simp
      · unfold otot
        rw [fold_take _ _ _ hx]
      · walk_at "le"
    · show VS K [] As.emp _ [_, _, _, _, _, .d (encQ (otot sp rows (told.take told.length))), _, _, _, _, _, _, _, _, _] _
      rw [List.take_length]
      refine vs_seq1 (vs_asg0 (d := encQ (ogoal f lot rows ((drw sp lot.length).take 0))) (show VD K _ _ (encQ 0) from vd_tup (va_cons vd_int (va_cons vd_int va_nil)) (Nat.le_of_ble_eq_true rfl)) gd_name) ?_
      refine vs_seq1 (vs_forTZ (f := encD1) (xs := drw sp lot.length) (fun i => [.d (encF f), .d (encM lot), .d (encSp sp), .d (dk k (rows.map encR)), .d (encT told), .d (encQ (otot sp rows told)), .no, .no, .no, .no, .d (encQ (ogoal f lot rows ((drw sp lot.length).take i))), .no, .no, .no, .no]) (fun _ => As.emp) (viz_seqL (VD.z (vd_call (P := PdrwD) (ds := [encSp sp, .int (lot.length : Nat)]) (va_cons (vd_var rfl) (va_cons ((vd_cb (va_cons (vd_var (d := .tuple (lot.map fun n => .int (n : Nat))) rfl) va_nil) rg_lenT).is (by rw [List.length_map])) va_nil)) hdr))) (Le.refl _) (fun H h => h) fun i x hx => ?_) ?_
      · have xm := List.mem_of_getElem? hx
        obtain ⟨b1, b2, b3⟩ := hgm x xm
        let mj := fun j => ((lot.zip x.1).take j).foldl (fun m q => m.set q.1 q.2) rows
        refine ⟨_, _, _, gd_tup (gds_cons gd_name (gds_cons gd_name gds_nil)) rfl, vs_newLR (F2 := As.emp) (ds := (mj 0).map encR) (es := (mix rows lot x.1).map encR) (env2 := [.d (encF f), .d (encM lot), .d (encSp sp), .d (dk k (rows.map encR)), .d (encT told), .d (encQ (otot sp rows told)), .no, .no, .no, .no, .d (encQ (ogoal f lot rows ((drw sp lot.length).take i))), .no, .d (encQ x.2), .no, .no]) (imA_map _ im_encR _) (imA_map _ im_encR _) (vn_cb (va_cons (vd_var rfl) va_nil) rg_listK) (fun a ha => ?_) (Nat.lt_of_sub_eq_succ rfl) (vs_asg0 (d := encQ (ogoal f lot rows ((drw sp lot.length).take (i + 1)))) (VD.is (vd_call (P := PaddD) (va_cons (vd_var rfl) (va_cons (vd_call (P := PmulD) (va_cons (vd_var rfl) (va_cons (vd_call (P := PworD) (va_cons (vd_var rfl) (va_cons (vd_var rfl) va_nil)) (hwm x xm)) va_nil)) ⟨_, _, b1, b2, rfl, rfl⟩) va_nil)) ⟨_, _, hgb i, b3, rfl, rfl⟩) ?_) gd_name), ?_⟩
        · refine (vs_forT (f := fun q : Nat × List Rat => .tuple [.int (q.1 : Nat), encR q.2]) (xs := lot.zip x.1) (fun j => [.d (encF f), .d (encM lot), .d (encSp sp), .d (dk k (rows.map encR)), .d (encT told), .d (encQ (otot sp rows told)), .no, .no, .no, .no, .d (encQ (ogoal f lot rows ((drw sp lot.length).take i))), .no, .d (encQ x.2), .v (.ref a), .no]) (fun j => As.emp.and (.lst K a ((mj j).map encR) (imA_map _ im_encR _))) ((vi_zip (k := false) (l := false) (ds := lot.map fun n => .int (n : Nat)) (es := x.1.map encR) (vb_var rfl) (vb_var rfl)).is (zipD_map _ _ lot x.1)) ?_ (fun H h => h) fun j q hq => ?_).le (.nx (fun e he => ⟨e, he, Le.refl _⟩) fun H h => by unfold mix; show _ ∧ _; have h2 := h; simp only [mj, List.take_length] at h2; exact h2)
          · show Le [_, _, _, _, _, _, _, _, _, _, _, _, _, _, _] _
            walk_at "le"
          · have qm := List.of_mem_zip (List.mem_of_getElem? hq)
            have e3 : (mj (j + 1)).map encR = ((mj j).map encR).set q.1 (encR q.2) := by
              show (((lot.zip x.1).take (j + 1)).foldl _ rows).map encR = _
              rw [fold_take _ _ _ hq, List.map_set]
            refine ⟨_, _, _, gd_tup (gds_cons gd_name (gds_cons gd_name gds_nil)) rfl, (vs_setL (j := q.1) (m' := by rw [← e3]; exact imA_map _ im_encR _) rfl List.mem_cons_self (vd_var rfl) (im_encR _) (vd_var rfl) ?_ As.off_emp).le (.nx (fun e he => ⟨e, he, Le.refl _⟩) fun H h => ?_), ?_⟩
            · rw [List.length_map]
              show q.1 < (((lot.zip x.1).take j).foldl _ rows).length
              rw [mix_len lot x.1 rows j]
              exact hla q.1 qm.1
            · refine ⟨trivial, ?_⟩
              obtain ⟨ys, g1, g2⟩ := h.2
              exact ⟨ys, g1, by rw [e3]; exact g2⟩
            · walk_at "le"
        · unfold ogoal
          rw [fold_take _ _ _ hx]
        · show Le [_, _, _, _, _, _, _, _, _, _, _, _, _, _, _] _
          walk_at "le"
      · show VS K [] As.emp _ [_, _, _, _, _, _, _, _, _, _, .d (encQ (ogoal f lot rows ((drw sp lot.length).take (drw sp lot.length).length))), _, _, _, _] _
        rw [List.take_length]
        refine vs_ret0 ((vd_andV (a := true) (b := true) ((vd_op (vd_var rfl) (vd_var rfl) (rd_eqD (sh_Q _) (sh_Q _))).is ?_) fun _ => (vd_op (vd_lenS (ks := told.map (·.1)) (VN.dat (vn_lc (ds := told.map encT1) (os := (told.map (·.1)).map encP) (vi_seqT (vb_var rfl)) (by rw [List.length_map, List.length_map]; omega) (by rw [List.map_map]; exact lc_map fun x hx => ⟨_, _, gd_name, by simp, vt_yes, vb_im (d := encP x.1) (vd_op (vd_var rfl) vd_int (rd_ix0 rfl)) (im_encP _)⟩))) hnd (by rw [List.length_map]; exact htl)) (vd_cb (va_cons (vd_var (d := .tuple (told.map encT1)) rfl) va_nil) rg_lenT) (rd_eqD rfl rfl)).is ?_))
        · rw [eqv_Q, heq, decide_eq_true rfl]
        · rw [eqv_int, List.length_map, List.length_map]; simp
end
end NB
end S_NbD17

section S_NbD18
set_option Elab.async false
set_option linter.all false
set_option maxRecDepth 100000
set_option maxHeartbeats 4000000
set_option exponentiation.threshold 100000
namespace NB
open PySem PySem.Spec PyProof.Rows L2
open Evl (Ex)
local macro_rules | `(tactic| walk_at "vd") => `(tactic| repeat' (first
  | exact vd_var rfl | exact vd_int | exact vd_bl | exact va_nil | exact vba_nil | exact vt_yes
  | with_reducible apply va_cons | with_reducible apply vt_test | with_reducible apply vt_not | with_reducible apply vt_B
  | with_reducible apply vd_tup | with_reducible apply vd_cb | with_reducible apply vd_op | with_reducible apply vd_un
  | exact rd_add | exact rd_ix0 rfl | exact rd_ix1 rfl | exact rd_I0 | exact rd_B0 | exact ru_I
  | exact rg_lenT | exact rg_lenL | exact rc_abs | exact rc_gcd
  | exact Nat.le_of_ble_eq_true rfl))
local macro_rules | `(tactic| walk_at "le") => `(tactic| repeat (first | exact Le.nil | apply Le.same | apply Le.drop))
section
variable {P : Program} {w : World} {K : PySem.W.Frag} {mg : Str → Option Value} {base : Heap}

section
variable {K : PySem.W.Frag} {F : As} {env : List Sl} {ta : TA} {te : TE} {u : TS} {r : Rs} {i : Nat} {d : PyData} {ds : List PyData}
/-- a new list of anything, one more put to it, then only read -/
theorem vs_goal (h : VA K ta env ds) (hl : ds.length < 1000) (h2 : VB K te (env.set i .no) d) (hi : i < env.length) (hu : VS K [] F u (env.set i (.d (.list (ds ++ [d])))) r) : VS K [] F (tSeq (tAsg (tLst ta) (gName i)) (tSeq (tDrop (tBM K "list" rAppend (tVar i) (tCons te tNil))) u)) env r := fun D σ H z q =>
  h σ H z.s H (Ex.refl _) _ fun xs H1 e1 hx => by
    refine ⟨by rw [hx.len]; exact Nat.le_trans (Nat.le_of_lt hl) (by decide), fun p hp => ?_⟩
    have z1 := z.ex e1
    have s1 : Sg K H1 (σ.set i (some (.ref p))) (env.set i .no) := z1.s.setSl (x := .no) trivial i
    have en : Ex H1 (upd H1 p (.lst xs)) := Ex.new hp
    have gi : (σ.set i (some (V.ref p)))[i]? = some (some (.ref p)) := by
      rw [List.getElem?_set_self]
      rw [z.sg.len]; exact hi
    refine ⟨_, gi, .inl ⟨rfl, xs, SqL.of upd_same⟩, h2 _ H1 s1 _ en _ fun v H3 e3 hv => ?_⟩
    have hp3 : H3 p = some (.lst xs) := e3 _ _ upd_same
    have hv3 : Dt K (er H3 p) v d := hv _ (er_bok (er_in en hp) upd_same trivial e3)
    refine ⟨p, xs, v, rfl, rfl, hp3, by rw [hx.len]; exact Nat.lt_of_lt_of_le hl (by decide), ?_⟩
    have e4 : Ex H1 (upd H3 p (.lst (xs ++ [v]))) := Ex.mut (en.trans e3) hp
    have s4 : Sg K (upd H3 p (.lst (xs ++ [v]))) (σ.set i (some (.ref p))) (env.set i (.d (.list (ds ++ [d])))) := (z1.s.ex e4).setD i (.lst upd_same ((DtA.ex e4 _ _ hx).app (.one (Dt.ex er_upd _ _ hv3))))
    refine hu D _ _ ⟨fun a m => (by cases m), by rw [Bs_nil]; exact s4, F.st _ _ (e1.trans e4) z.as⟩ (Rs.ok_mono (XO.of (e1.trans e4)) q)
end
def hs : Fm := [([[0], [2], [0]], rq (-1) 2), ([[1], [1], [2]], rq 1 1)]
def hsp : Spr := [([rq 0 1], rq 1 3), ([rq 3 1], rq 2 3)]
def hrows : List (List Rat) := [[rq 2 1], [rq 0 1], [rq 5 1]]
def hap : Fm := [([[0], [1]], rq (-1) 1), ([[1], [0]], rq 1 1)]
def hdue : List (Pw × Fm) := [([[0], [0], [0]], [([[2]], rq (-1) 2)]), ([[1], [0], [0]], [([[1], [2]], rq 1 1)])]
structure ByOk : Prop where
  m1 : PmoD [encF hs, encM [1, 2]] (encT hdue)
  m2 : PnbN [encG [([0], 2)], encM [2]] [encF [([[0], [2]], rq (-1) 1), ([[2], [0]], rq 1 1)]]
  m3 : PmoD [encF hap, encM [0, 1]] (.tuple [])
  m4 : PnbN [encG [([0], 3)], encM [1]] [encF [([[0], [0], [1]], rq (-1) 1), ([[0], [1], [0]], rq 1 1)], encF [([[0], [0], [1]], rq (-1) 1), ([[1], [0], [0]], rq 1 1)]]
  ov : OvOk hs [1, 2] hsp hrows
def hgoal : List PyData := [encT hdue, .list [encF [([[0], [2]], rq (-1) 1), ([[2], [0]], rq 1 1)]], .tuple []]
def hlast : PyData := .list [encF [([[0], [0], [1]], rq (-1) 1), ([[0], [1], [0]], rq 1 1)], encF [([[0], [0], [1]], rq (-1) 1), ([[1], [0], [0]], rq 1 1)]]

theorem sc_law_by_hand_right : FnScope ["_law_shape_here", "_law_due", "_law_spring_here", "_law_rows", "_law_one", "_law_apart", "_law_far", "_law_near", "_law_lone", "_law_mine", "_law_goal", "_law_own"] [] (defScope (topS 50)) := ⟨rfl, rfl, rfl, by decide +kernel, rfl, by decide +kernel, by decide +kernel⟩
theorem cb_law_by_hand_right (W : Wd K mg) (c_nought_basis : Cb P w K mg base "nought_basis" 13 ["kinds", "sums"] (spN K PnbN)) (c_mean_over : Cb P w K mg base "mean_over" 12 ["form", "lot"] (spD K PmoD)) (c__law_same : Cb P w K mg base "_law_same" 12 ["_law_mine", "_law_due"] (spD K (PsameD 12))) (c__law_over_right : Cb P w K mg base "_law_over_right" 13 ["_law_shape_here", "_law_lot", "_law_spring_here", "_law_rows"] (spD K (PovrD OvOk))) (BO : ByOk) : Cb P w K mg base "_law_by_hand_right" 14 [] (spD K PbyD) := by
  refine mk_cb W 38 (i := 50) rfl sc_law_by_hand_right (fun _ _ _ _ _ _ us hl => match us, hl with | [], _ => rfl) (fun vs H Q E h => ?_) fun f cdv A outer s H vs Q E hr h => ⟨_, PSs.nox (
    (pss_cons (ps_set (i := 0) sc_law_by_hand_right.nd rfl (by first | exact Or.inl rfl | exact Or.inr rfl) (pe_tup (pa_cons (pe_tup (pa_cons (pe_tup (pa_cons (pe_tup (pa_cons pe_int pa_nil)) (pa_cons (pe_tup (pa_cons pe_int pa_nil)) (pa_cons (pe_tup (pa_cons pe_int pa_nil)) pa_nil)))) (pa_cons (pe_tup (pa_cons (pe_un un_neg pe_int) (pa_cons pe_int pa_nil))) pa_nil))) (pa_cons (pe_tup (pa_cons (pe_tup (pa_cons (pe_tup (pa_cons pe_int pa_nil)) (pa_cons (pe_tup (pa_cons pe_int pa_nil)) (pa_cons (pe_tup (pa_cons pe_int pa_nil)) pa_nil)))) (pa_cons (pe_tup (pa_cons pe_int (pa_cons pe_int pa_nil))) pa_nil))) pa_nil))))
  (pss_cons (ps_set (i := 1) sc_law_by_hand_right.nd rfl (by first | exact Or.inl rfl | exact Or.inr rfl) (pe_lst (pa_cons (pe_tup (pa_cons (pe_tup (pa_cons (pe_tup (pa_cons pe_int pa_nil)) (pa_cons (pe_tup (pa_cons pe_int pa_nil)) (pa_cons (pe_tup (pa_cons pe_int pa_nil)) pa_nil)))) (pa_cons (pe_tup (pa_cons (pe_tup (pa_cons (pe_tup (pa_cons (pe_tup (pa_cons pe_int pa_nil)) pa_nil)) (pa_cons (pe_tup (pa_cons (pe_un un_neg pe_int) (pa_cons pe_int pa_nil))) pa_nil))) pa_nil)) pa_nil))) (pa_cons (pe_tup (pa_cons (pe_tup (pa_cons (pe_tup (pa_cons pe_int pa_nil)) (pa_cons (pe_tup (pa_cons pe_int pa_nil)) (pa_cons (pe_tup (pa_cons pe_int pa_nil)) pa_nil)))) (pa_cons (pe_tup (pa_cons (pe_tup (pa_cons (pe_tup (pa_cons (pe_tup (pa_cons pe_int pa_nil)) (pa_cons (pe_tup (pa_cons pe_int pa_nil)) pa_nil))) (pa_cons (pe_tup (pa_cons pe_int (pa_cons pe_int pa_nil))) pa_nil))) pa_nil)) pa_nil))) pa_nil))))
  (pss_cons (ps_asg (pe_tup (pa_cons (pe_tup (pa_cons (pe_tup (pa_cons (pe_tup (pa_cons (pe_tup (pa_cons pe_int (pa_cons pe_int pa_nil))) pa_nil)) (pa_cons (pe_tup (pa_cons pe_int (pa_cons pe_int pa_nil))) pa_nil))) (pa_cons (pe_tup (pa_cons (pe_tup (pa_cons (pe_tup (pa_cons pe_int (pa_cons pe_int pa_nil))) pa_nil)) (pa_cons (pe_tup (pa_cons pe_int (pa_cons pe_int pa_nil))) pa_nil))) pa_nil))) (pa_cons (pe_tup (pa_cons (pe_tup (pa_cons (pe_tup (pa_cons pe_int (pa_cons pe_int pa_nil))) pa_nil)) (pa_cons (pe_tup (pa_cons (pe_tup (pa_cons pe_int (pa_cons pe_int pa_nil))) pa_nil)) (pa_cons (pe_tup (pa_cons (pe_tup (pa_cons pe_int (pa_cons pe_int pa_nil))) pa_nil)) pa_nil)))) pa_nil))) (pg_tupX (n := 2) (K := K) rfl rfl (pgs_cons (pg_name (i := 2) sc_law_by_hand_right.nd rfl (by first | exact Or.inl rfl | exact Or.inr rfl)) (pgs_cons (pg_name (i := 3) sc_law_by_hand_right.nd rfl (by first | exact Or.inl rfl | exact Or.inr rfl)) pgs_nil))))
  (pss_cons (ps_set (i := 4) sc_law_by_hand_right.nd rfl (by first | exact Or.inl rfl | exact Or.inr rfl) (pe_cb c_nought_basis (hr.mono (by omega)) rfl (pa_cons (pe_tup (pa_cons (pe_tup (pa_cons (pe_tup (pa_cons pe_int pa_nil)) (pa_cons pe_int pa_nil))) pa_nil)) (pa_cons (pe_tup (pa_cons pe_int pa_nil)) pa_nil))))
  (pss_cons (ps_set (i := 5) sc_law_by_hand_right.nd rfl (by first | exact Or.inl rfl | exact Or.inr rfl) (pe_tup (pa_cons (pe_tup (pa_cons (pe_tup (pa_cons (pe_tup (pa_cons pe_int pa_nil)) (pa_cons (pe_tup (pa_cons pe_int pa_nil)) pa_nil))) (pa_cons (pe_tup (pa_cons (pe_un un_neg pe_int) (pa_cons pe_int pa_nil))) pa_nil))) (pa_cons (pe_tup (pa_cons (pe_tup (pa_cons (pe_tup (pa_cons pe_int pa_nil)) (pa_cons (pe_tup (pa_cons pe_int pa_nil)) pa_nil))) (pa_cons (pe_tup (pa_cons pe_int (pa_cons pe_int pa_nil))) pa_nil))) pa_nil))))
  (pss_cons (ps_asg (pe_tup (pa_cons (pe_tup (pa_cons (pe_tup (pa_cons pe_int pa_nil)) (pa_cons (pe_tup (pa_cons pe_int pa_nil)) (pa_cons (pe_tup (pa_cons pe_int pa_nil)) pa_nil)))) (pa_cons (pe_tup (pa_cons (pe_tup (pa_cons pe_int pa_nil)) (pa_cons (pe_tup (pa_cons pe_int pa_nil)) (pa_cons (pe_tup (pa_cons pe_int pa_nil)) pa_nil)))) (pa_cons (pe_tup (pa_cons (pe_tup (pa_cons pe_int pa_nil)) (pa_cons (pe_tup (pa_cons pe_int pa_nil)) (pa_cons (pe_tup (pa_cons pe_int pa_nil)) pa_nil)))) pa_nil)))) (pg_tupX (n := 3) (K := K) rfl rfl (pgs_cons (pg_name (i := 6) sc_law_by_hand_right.nd rfl (by first | exact Or.inl rfl | exact Or.inr rfl)) (pgs_cons (pg_name (i := 7) sc_law_by_hand_right.nd rfl (by first | exact Or.inl rfl | exact Or.inr rfl)) (pgs_cons (pg_name (i := 8) sc_law_by_hand_right.nd rfl (by first | exact Or.inl rfl | exact Or.inr rfl)) pgs_nil)))))
  (pss_cons (ps_set (i := 9) sc_law_by_hand_right.nd rfl (by first | exact Or.inl rfl | exact Or.inr rfl) (pe_lst (pa_cons (pe_cb c_mean_over (hr.mono (by omega)) rfl (pa_cons (pv 0) (pa_cons (pe_tup (pa_cons pe_int (pa_cons pe_int pa_nil))) pa_nil))) (pa_cons (pv 4) (pa_cons (pe_cb c_mean_over (hr.mono (by omega)) rfl (pa_cons (pv 5) (pa_cons (pe_tup (pa_cons pe_int (pa_cons pe_int pa_nil))) pa_nil))) (pa_cons (pe_cb c_nought_basis (hr.mono (by omega)) rfl (pa_cons (pe_tup (pa_cons (pe_tup (pa_cons (pe_tup (pa_cons pe_int pa_nil)) (pa_cons pe_int pa_nil))) pa_nil)) (pa_cons (pe_tup (pa_cons pe_int pa_nil)) pa_nil))) pa_nil))))))
  (pss_cons (ps_set (i := 10) sc_law_by_hand_right.nd rfl (by first | exact Or.inl rfl | exact Or.inr rfl) (pe_lst (pa_cons (pe_callTy (cr_tupX (K := K) rfl) (by rfl) (W.free "tuple") (by decide +kernel) (pa_cons (pv 1) pa_nil)) (pa_cons (pe_lst (pa_cons (pe_tup (pa_cons (pe_tup (pa_cons (pe_tup (pa_cons (pe_tup (pa_cons pe_int pa_nil)) (pa_cons (pe_tup (pa_cons pe_int pa_nil)) pa_nil))) (pa_cons (pe_tup (pa_cons (pe_un un_neg pe_int) (pa_cons pe_int pa_nil))) pa_nil))) (pa_cons (pe_tup (pa_cons (pe_tup (pa_cons (pe_tup (pa_cons pe_int pa_nil)) (pa_cons (pe_tup (pa_cons pe_int pa_nil)) pa_nil))) (pa_cons (pe_tup (pa_cons pe_int (pa_cons pe_int pa_nil))) pa_nil))) pa_nil))) pa_nil)) (pa_cons (pe_tup pa_nil) pa_nil)))))
  (pss_cons (ps_expr (pe_bmX (K := K) rfl PySem.F.plainAttrs_list PySem.F.slot_list_append PySem.F.type_list_append mt_append (pv 10) (pa_cons (pe_lc (own := [("_law_own", 11)]) rfl sc_law_by_hand_right.nd (pi_seqX (K := K) rfl (pe_tup (pa_cons (pv 7) (pa_cons (pv 8) pa_nil)))) (blkOk_by (N := ["_law_shape_here", "_law_due", "_law_spring_here", "_law_rows", "_law_one", "_law_apart", "_law_far", "_law_near", "_law_lone", "_law_mine", "_law_goal", "_law_own"]) (sc := defScope (topS 50)) (by decide +kernel)) (fun _ _ _ _ _ => (pg_name (i := 11) sc_law_by_hand_right.nd rfl (by first | exact Or.inl rfl | exact Or.inr rfl))) (fun _ _ _ _ _ => pts_nil) (fun _ _ _ _ _ => (pe_tup (pa_cons (pe_tup (pa_cons (pv 6) (pa_cons (pe_tup (pa_cons (pe_un un_neg pe_int) (pa_cons pe_int pa_nil))) pa_nil))) (pa_cons (pe_tup (pa_cons (pv 11) (pa_cons (pe_tup (pa_cons pe_int (pa_cons pe_int pa_nil))) pa_nil))) pa_nil))))) pa_nil)))
  (pss_one (ps_ret (pe_and (pe_cb c__law_same (hr.mono (by omega)) rfl (pa_cons (pv 9) (pa_cons (pv 10) pa_nil))) (pe_one (pe_cb c__law_over_right (hr.mono (by omega)) rfl (pa_cons (pv 0) (pa_cons (pe_tup (pa_cons pe_int (pa_cons pe_int pa_nil))) (pa_cons (pv 2) (pa_cons (pv 3) pa_nil))))))))))))))))))), body_D (F := As.emp) (fun ds d p => ?_) h⟩
  · obtain ⟨ds, d, p, hd, _⟩ := h
    rw [hd.len]
    obtain ⟨rfl, rfl⟩ := p
    rfl
  · obtain ⟨rfl, rfl⟩ := p
    obtain ⟨m1, m2, m3, m4, ov⟩ := BO
    let fl : PyData := encP [[0], [0], [1]]
    let nl : PyData := encP [[0], [1], [0]]
    let ll : PyData := encP [[1], [0], [0]]
    refine vs_seq1 (vs_asg0 (d := encF hs) ?_ gd_name) ?_
    · apply VD.is
      · walk_at "vd"
      · rfl
    refine vs_seq1 (vs_asg0 (d := .list (hdue.map encT1)) (VN.dat (vn_lst ?_ (Nat.le_of_ble_eq_true rfl))) gd_name) ?_
    · apply VA.is
      · walk_at "vd"
      · rfl
    refine vs_seq1 (env' := [.d (encF hs), .d (.list (hdue.map encT1)), .d (encSp hsp), .d (.tuple (hrows.map encR)), .no, .no, .no, .no, .no, .no, .no, .no]) (vs_asg0 (d := .tuple [encSp hsp, .tuple (hrows.map encR)]) ?_ (gd_tup (gds_cons gd_name (gds_cons gd_name gds_nil)) rfl)) ?_
    · apply VD.is
      · walk_at "vd"
      · rfl
    refine vs_seq1 (vs_asg0 (d := .list [encF [([[0], [2]], rq (-1) 1), ([[2], [0]], rq 1 1)]]) (VN.dat (vn_call (PN := PnbN) (ds := [encG [([0], 2)], encM [2]]) ?_ m2)) gd_name) ?_
    · apply VA.is
      · walk_at "vd"
      · rfl
    refine vs_seq1 (vs_asg0 (d := encF hap) ?_ gd_name) ?_
    · apply VD.is
      · walk_at "vd"
      · rfl
    refine vs_seq1 (env' := [.d (encF hs), .d (.list (hdue.map encT1)), .d (encSp hsp), .d (.tuple (hrows.map encR)), .d (.list [encF [([[0], [2]], rq (-1) 1), ([[2], [0]], rq 1 1)]]), .d (encF hap), .d fl, .d nl, .d ll, .no, .no, .no]) (vs_asg0 (d := .tuple [fl, nl, ll]) ?_ (gd_tup (gds_cons gd_name (gds_cons gd_name (gds_cons gd_name gds_nil))) rfl)) ?_
    · apply VD.is
      · walk_at "vd"
      · rfl
    refine vs_seq1 (vs_asg0 (d := .list (hgoal ++ [hlast])) (VN.dat (vn_lst (va_cons (vd_call (P := PmoD) (ds := [encF hs, encM [1, 2]]) ?_ m1) (va_cons (vd_var rfl) (va_cons (vd_call (P := PmoD) (ds := [encF hap, encM [0, 1]]) ?_ m3) (va_cons (VN.dat (vn_call (PN := PnbN) (ds := [encG [([0], 3)], encM [1]]) ?_ m4)) va_nil)))) (Nat.le_of_ble_eq_true rfl))) gd_name) ?_
    · apply VA.is
      · walk_at "vd"
      · rfl
    · apply VA.is
      · walk_at "vd"
      · rfl
    · apply VA.is
      · walk_at "vd"
      · rfl
    refine vs_goal (ds := hgoal) (d := hlast) (va_cons (show VD K _ _ (encT hdue) from vd_cb (va_cons (vd_var rfl) va_nil) rg_tupL) (va_cons (VN.dat (vn_lst (ds := [encF [([[0], [2]], rq (-1) 1), ([[2], [0]], rq 1 1)]]) ?_ (Nat.le_of_ble_eq_true rfl))) (va_cons (vd_tup va_nil (Nat.le_of_ble_eq_true rfl)) va_nil))) (Nat.lt_of_sub_eq_succ rfl) (vb_new (vn_lc (ds := [nl, ll]) (os := _) (vi_seqT (vb_tup (vba_cons (vb_var rfl) (vba_cons (vb_var rfl) vba_nil)) (Nat.le_of_ble_eq_true rfl))) (Nat.le_of_ble_eq_true rfl) (lc_map (f := id) (h := fun x => .tuple [.tuple [fl, encQ (rq (-1) 1)], .tuple [x, encQ (rq 1 1)]]) (xs := [nl, ll]) fun x hx => ⟨_, _, gd_name, by simp, vt_yes, vb_im ?_ ?_⟩)) rfl) (Nat.lt_of_sub_eq_succ rfl) ?_
    · apply VA.is
      · walk_at "vd"
      · rfl
    · apply VD.is
      · walk_at "vd"
      · rfl
    · have : x = nl ∨ x = ll := by simpa using hx
      rcases this with rfl | rfl <;> rfl
    refine vs_ret0 (vd_andV (a := true) (b := true) (vd_call (P := PsameD 12) (va_cons (vd_var rfl) (va_cons (vd_var rfl) va_nil)) ⟨.list (hgoal ++ [hlast]), by decide, rfl, rfl, rfl⟩) fun _ => vd_call (P := PovrD OvOk) (ds := [encF hs, encM [1, 2], encSp hsp, dk false (hrows.map encR)]) (va_cons (vd_var rfl) (va_cons ?_ (va_cons (vd_var rfl) (va_cons (vd_var rfl) va_nil)))) ⟨hs, [1, 2], hsp, false, hrows, ov, rfl, rfl⟩)
    apply VD.is
    · walk_at "vd"
    · rfl
end
end NB
end S_NbD18

section S_NbM9
set_option Elab.async false
set_option linter.all false
set_option maxRecDepth 100000
set_option maxHeartbeats 4000000
namespace NB
open PySem PySem.Spec PyProof.Rows L2 PySem.W

/-! ### sorting that the kernel can run -/
def UD {α : Type} (f : α → PyData) : Prop := ∀ (x y : α) (r s : List (Int ⊕ List Nat)), keyToks (f x) ++ r = keyToks (f y) ++ s → x = y ∧ r = s
theorem ud_nat : UD (fun n : Nat => PyData.int (n : Nat)) := fun x y r s h => by
  have h : (Sum.inl ((x : Nat) : Int) :: r : List (Int ⊕ List Nat)) = Sum.inl ((y : Nat) : Int) :: s := h
  injection h with h1 h2
  injection h1 with h1
  exact ⟨by omega, h2⟩
theorem ud_all {α : Type} {f : α → PyData} (hf : UD f) : ∀ (xs ys : List α) (r s : List (Int ⊕ List Nat)), keyToksAll (xs.map f) ++ r = keyToksAll (ys.map f) ++ s → xs = ys ∧ r = s
  | [], [], r, s, h => by
    have h : (Sum.inl 0 :: r : List (Int ⊕ List Nat)) = Sum.inl 0 :: s := h
    injection h with h1 h2
    exact ⟨rfl, h2⟩
  | [], y :: ys, r, s, h => by
    have h : (Sum.inl 0 :: r : List (Int ⊕ List Nat)) = Sum.inl 1 :: ((keyToks (f y) ++ keyToksAll (ys.map f)) ++ s) := h
    injection h with h1 h2
    injection h1 with h1
    cases h1
  | x :: xs, [], r, s, h => by
    have h : (Sum.inl 1 :: ((keyToks (f x) ++ keyToksAll (xs.map f)) ++ r) : List (Int ⊕ List Nat)) = Sum.inl 0 :: s := h
    injection h with h1 h2
    injection h1 with h1
    cases h1
  | x :: xs, y :: ys, r, s, h => by
    have h : (Sum.inl 1 :: ((keyToks (f x) ++ keyToksAll (xs.map f)) ++ r) : List (Int ⊕ List Nat)) = Sum.inl 1 :: ((keyToks (f y) ++ keyToksAll (ys.map f)) ++ s) := h
    injection h with _ h2
    rw [List.append_assoc, List.append_assoc] at h2
    obtain ⟨e, h3⟩ := hf x y _ _ h2
    obtain ⟨e2, h4⟩ := ud_all hf xs ys r s h3
    exact ⟨by rw [e, e2], h4⟩
theorem ud_tup {α : Type} {f : α → PyData} (hf : UD f) : UD (fun xs : List α => PyData.tuple (xs.map f)) := fun xs ys r s h => ud_all hf xs ys r s h
theorem ud_M : UD encM := ud_tup ud_nat
theorem ud_P : UD encP := ud_tup ud_M
theorem ud_F1 : UD encF1 := fun x y r s h => by
  have h : (Sum.inl 1 :: ((keyToks (encP x.1) ++ (Sum.inl 1 :: ((Sum.inl 1 :: Sum.inl x.2.num :: Sum.inl 1 :: Sum.inl ((x.2.den : Nat) : Int) :: [Sum.inl 0]) ++ [Sum.inl 0]))) ++ r) : List (Int ⊕ List Nat)) = Sum.inl 1 :: ((keyToks (encP y.1) ++ (Sum.inl 1 :: ((Sum.inl 1 :: Sum.inl y.2.num :: Sum.inl 1 :: Sum.inl ((y.2.den : Nat) : Int) :: [Sum.inl 0]) ++ [Sum.inl 0]))) ++ s) := h
  injection h with _ h
  rw [List.append_assoc, List.append_assoc] at h
  obtain ⟨e, h⟩ := ud_P _ _ _ _ h
  simp only [List.cons_append, List.nil_append, List.cons.injEq, Sum.inl.injEq, true_and] at h
  obtain ⟨h1, h2, h3⟩ := h
  exact ⟨Prod.ext e (Rat.ext h1 (by omega)), h3⟩
theorem ud_F : UD encF := ud_tup ud_F1
theorem UD.inj {α : Type} {f : α → PyData} (hf : UD f) {x y : α} (h : keyToks (f x) = keyToks (f y)) : x = y := (hf x y [] [] (by rw [h])).1
theorem le_anti {α : Type} {f : α → PyData} (hf : UD f) {x y : α} (h1 : dataLe false f x y = true) (h2 : dataLe false f y x = true) : x = y := by
  have h1 : (!(listOrd itemOrd).blt (keyToks (f y)) (keyToks (f x))) = true := h1
  have h2 : (!(listOrd itemOrd).blt (keyToks (f x)) (keyToks (f y))) = true := h2
  rw [Bool.not_eq_true'] at h1 h2
  exact hf.inj ((listOrd itemOrd).total _ _ h2 h1)
def ins1 {α : Type} (le : α → α → Bool) (a : α) : List α → List α
  | [] => [a]
  | b :: l => if le a b then a :: b :: l else b :: ins1 le a l
def isrt {α : Type} (f : α → PyData) (l : List α) : List α := l.foldr (ins1 (dataLe false f)) []
theorem ins1_perm {α : Type} (le : α → α → Bool) (a : α) : ∀ l : List α, (ins1 le a l).Perm (a :: l)
  | [] => List.Perm.refl _
  | b :: l => by
    unfold ins1
    split
    · exact List.Perm.refl _
    · exact ((ins1_perm le a l).cons b).trans (List.Perm.swap a b l)
theorem isrt_perm {α : Type} (f : α → PyData) : ∀ l : List α, (isrt f l).Perm l
  | [] => List.Perm.refl _
  | a :: l => (ins1_perm _ a _).trans ((isrt_perm f l).cons a)
theorem ins1_sorted {α : Type} {le : α → α → Bool} (T : TotalLe le) (a : α) : ∀ l : List α, l.Pairwise (fun a b => le a b = true) → (ins1 le a l).Pairwise (fun a b => le a b = true)
  | [], _ => List.pairwise_singleton _ _
  | b :: l, h => by
    unfold ins1
    obtain ⟨h1, h2⟩ := List.pairwise_cons.mp h
    split
    · rename_i hab
      refine List.pairwise_cons.mpr ⟨fun c hc => ?_, h⟩
      rcases List.mem_cons.mp hc with rfl | hc
      · exact hab
      · exact T.trans _ _ _ hab (h1 c hc)
    · rename_i hab
      refine List.pairwise_cons.mpr ⟨fun c hc => ?_, ins1_sorted T a l h2⟩
      rcases List.mem_cons.mp ((ins1_perm le a l).mem_iff.mp hc) with rfl | hc
      · exact (T.total b c).resolve_right hab
      · exact h1 c hc
theorem isrt_sorted {α : Type} (f : α → PyData) : ∀ l : List α, (isrt f l).Pairwise (fun a b => dataLe false f a b = true)
  | [] => List.Pairwise.nil
  | a :: l => ins1_sorted (sortLe_total _ _ _) a _ (isrt_sorted f l)
theorem srt_isrt {α : Type} {f : α → PyData} (hf : UD f) (l : List α) : srt f l = isrt f l :=
  List.Perm.eq_of_pairwise (le := fun a b => dataLe false f a b = true) (fun a b _ _ h1 h2 => le_anti hf h1 h2) (sort_pairwise (sortLe_total _ _ _) l) (isrt_sorted f l) ((srt_perm f l).trans (isrt_perm f l).symm)
theorem srt_M (l : List (List Nat)) : srt encM l = isrt encM l := srt_isrt ud_M l
theorem srt_P (l : List Pw) : srt encP l = isrt encP l := srt_isrt ud_P l
theorem srt_F (l : List Fm) : srt encF l = isrt encF l := srt_isrt ud_F l
theorem fsrt_M : srt encM = isrt encM := funext srt_M
theorem fsrt_P : srt encP = isrt encP := funext srt_P
theorem fsrt_F : srt encF = isrt encF := funext srt_F
end NB
end S_NbM9

section S_NbM10
set_option Elab.async false
set_option linter.all false
set_option maxRecDepth 100000
set_option maxHeartbeats 4000000
namespace NB
open PySem PySem.Spec PyProof.Rows L2 PySem.W

/-! ### the facts by hand -/
theorem hmo1 : mo hs [1, 2] = hdue := by
  simp only [mo, gmo, mwish, gath, facs, fsrt_M, fsrt_P]
  decide +kernel
theorem hmo2 : mo hap [0, 1] = [] := by
  simp only [mo, gmo, mwish, gath, facs, fsrt_M, fsrt_P]
  decide +kernel
theorem hnb1 : srt encF (nbl [([0], 2)] [2]) = [[([[0], [2]], rq (-1) 1), ([[2], [0]], rq 1 1)]] := by
  simp only [nbl, grpF, facs, fsrt_M, fsrt_P, fsrt_F]
  decide +kernel
theorem hnb2 : srt encF (nbl [([0], 3)] [1]) = [[([[0], [0], [1]], rq (-1) 1), ([[0], [1], [0]], rq 1 1)], [([[0], [0], [1]], rq (-1) 1), ([[1], [0], [0]], rq 1 1)]] := by
  simp only [nbl, grpF, facs, fsrt_M, fsrt_P, fsrt_F]
  decide +kernel
instance (b : Nat) (q : Rat) : Decidable (Bd b q) := inferInstanceAs (Decidable (_ ∧ _))
instance (b : Nat) (f : Fm) : Decidable (BdF b f) := inferInstanceAs (Decidable (∀ p ∈ f, Bd b p.2))
instance (p : Pw) : Decidable (SzP p) := inferInstanceAs (Decidable (_ ∧ ∀ m ∈ p, m.length ≤ 1000))
instance (f : Fm) : Decidable (SzF f) := inferInstanceAs (Decidable (_ ∧ ∀ x ∈ f, SzP x.1))
instance (s : List Nat) : Decidable (SumOk s) := inferInstanceAs (Decidable (_ ∧ ∀ t ∈ s, t ≤ 3))
instance (g : List (List Nat × Nat)) : Decidable (KindOk g) := inferInstanceAs (Decidable (_ ∧ (∀ x ∈ g, x.2 ≤ 3 ∧ x.1.length ≤ 2) ∧ _ ∧ _))
theorem by_m1 : PmoD [encF hs, encM [1, 2]] (encT hdue) := ⟨3, hs, [1, 2], by decide, by decide, by decide, by decide, by decide, by decide, by decide, rfl, by rw [hmo1]⟩
theorem by_m3 : PmoD [encF hap, encM [0, 1]] (.tuple []) := ⟨3, hap, [0, 1], by decide, by decide, by decide, by decide, by decide, by decide, by decide, rfl, by rw [hmo2]; rfl⟩
theorem by_m2 : PnbN [encG [([0], 2)], encM [2]] [encF [([[0], [2]], rq (-1) 1), ([[2], [0]], rq 1 1)]] := ⟨[([0], 2)], [2], by decide, by decide, rfl, by rw [hnb1]; rfl⟩
theorem by_m4 : PnbN [encG [([0], 3)], encM [1]] [encF [([[0], [0], [1]], rq (-1) 1), ([[0], [1], [0]], rq 1 1)], encF [([[0], [0], [1]], rq (-1) 1), ([[1], [0], [0]], rq 1 1)]] := ⟨[([0], 3)], [1], by decide, by decide, rfl, by rw [hnb2]; rfl⟩
end NB
end S_NbM10

section S_NbM11
set_option Elab.async false
set_option linter.all false
set_option maxRecDepth 100000
set_option maxHeartbeats 4000000
set_option exponentiation.threshold 100000
namespace NB
open PySem PySem.Spec PyProof.Rows L2 PySem.W

theorem take_all {α : Type} {P : List α → Prop} {l : List α} {n : Nat} (hl : l.length ≤ n) (h : ∀ j, j < n + 1 → P (l.take j)) (i : Nat) : P (l.take i) := by
  by_cases hi : i < n + 1
  · exact h i hi
  · have := h n (by omega)
    rw [List.take_of_length_le hl] at this
    rw [List.take_of_length_le (by omega)]
    exact this
theorem by_ne : ∀ x ∈ hdue, x.2 ≠ [] ∧ ∀ a ∈ [1, 2], ∃ m, x.1[a]? = some m ∧ m.sum = 0 := fun x hx => by
  have h : (x.2.isEmpty = false ∧ ∀ a ∈ [1, 2], (x.1[a]?).map List.sum = some 0) := (by decide : ∀ x ∈ hdue, x.2.isEmpty = false ∧ ∀ a ∈ [1, 2], (x.1[a]?).map List.sum = some 0) x hx
  refine ⟨fun e => (by rw [e] at h; exact absurd h.1 (by simp)), fun a ha => ?_⟩
  obtain ⟨m, h1, h2⟩ := Option.map_eq_some_iff.mp (h.2 a ha)
  exact ⟨m, h1, h2⟩
theorem by_ov : OvOk hs [1, 2] hsp hrows where
  fmo := by rw [hmo1]; exact by_m1
  ftl := by rw [hmo1]; decide
  fsr := by rw [hmo1, srt_P]; decide +kernel
  fnd := by rw [hmo1]; decide
  fne := by rw [hmo1]; exact by_ne
  fme := fun x hx => by
    rw [hmo1] at hx
    obtain ⟨h1, h2, h3, h4⟩ := (by decide : ∀ x ∈ hdue, BdF 1 x.2 ∧ (∀ y ∈ x.2, ∀ m ∈ y.1, m.sum ≤ 3) ∧ (∀ y ∈ x.2, y.1.length ≤ 3) ∧ (1 + 20 * 3 + 1) * x.2.length ≤ 4000) x hx
    exact ⟨2, 1, 2, 3, 20, x.2, hsp, by decide, h1, h2, by decide, h3, h4, by decide, by decide, by decide, by decide, by decide, rfl, rfl⟩
  fwo := fun x hx k => by
    rw [hmo1] at hx
    have h1 := (by decide : ∀ x ∈ hdue, psum x.1 ≤ 3) x hx
    exact ⟨3, 1, 3, k, [(x.1, 1)], hrows, by decide, fun y hy => by rw [List.mem_singleton.mp hy]; exact bd_p1, fun y hy => by rw [List.mem_singleton.mp hy]; exact h1, by simp, by decide, by decide, rfl, rfl⟩
  fmb := by rw [hmo1]; decide +kernel
  ftb := by
    rw [hmo1]
    exact take_all (P := fun l => Bd 4000 (otot hsp hrows l)) (n := 2) (by decide) (by decide +kernel)
  fdr := ⟨2, 2, hsp, by decide, by decide, by decide, by decide, by decide, rfl, rfl⟩
  fll := by decide
  fla := by decide
  frl := by decide
  fwm := fun x hx => by
    have h1 := (by decide +kernel : ∀ x ∈ drw hsp 2, ∀ r ∈ mix hrows [1, 2] x.1, ∀ y ∈ r, Bd 3 y) x hx
    exact ⟨3, 3, 4, true, hs, mix hrows [1, 2] x.1, h1, by decide, by decide, by decide, by decide, by decide, rfl, rfl⟩
  fgm := (by decide +kernel : ∀ x ∈ drw hsp 2, Bd 4000 x.2 ∧ Bd 4000 (worth hs (mix hrows [1, 2] x.1)) ∧ Bd 4000 (x.2 * worth hs (mix hrows [1, 2] x.1)))
  fgb := take_all (P := fun l => Bd 4000 (ogoal hs [1, 2] hrows l)) (n := 4) (by decide +kernel) (by decide +kernel)
  feq := by rw [hmo1]; decide +kernel
theorem by_ok : ByOk := ⟨by_m1, by_m2, by_m3, by_m4, by_ov⟩
end NB
end S_NbM11

section S_NbM12
set_option Elab.async false
set_option linter.all false
set_option maxRecDepth 100000
set_option maxHeartbeats 4000000
namespace NB
open PySem PySem.Spec PyProof.Rows L2 PySem.W

/-! ### all kinds that are drawn -/
def kfi (l : Kd) : Kd := ((isrt encM (l.map (·.1))).filter fun k => decide (0 < (lk l k).getD 0)).map fun k => (k, (lk l k).getD 0)
theorem kfin_eq (l : Kd) : kfin l = kfi l := by
  unfold kfin kfi
  rw [fsrt_M]
def kinds (n : Nat) : List Kd := ((kst n 1 ++ kst n 2).map fun s => kfi s.1).eraseDups
instance (s : Pw) (n : Nat) : Decidable (ShowOk s n) := inferInstanceAs (Decidable (_ ∧ _ ∧ _ ∧ _ ∧ ∀ m ∈ s, _ ∧ _ ∧ ∀ c ∈ m, c < n))
theorem kst_kinds {n i : Nat} {s : Kd × Nat} (h1 : 1 ≤ i) (h2 : i ≤ 2) (hs : s ∈ kst n i) : kfin s.1 ∈ kinds n := by
  rw [kfin_eq]
  unfold kinds
  rw [List.mem_eraseDups]
  refine List.mem_map.mpr ⟨s, ?_, rfl⟩
  match i, h1, h2 with
  | 1, _, _ => exact List.mem_append_left _ hs
  | 2, _, _ => exact List.mem_append_right _ hs
theorem kinds_ok : ∀ n ∈ [1, 2], ∀ g ∈ kinds n, KindOk g ∧ ShowOk (shows g) n := by decide +kernel
def facsI (p : Pw) : Pw := isrt encM (p.filter nz)
def bpsI (g : Kd) (sums : List Nat) : List Pw := isrt encP (lfit (shows g) sums)
def lstI (ps : List Pw) (own : Pw) : Pw := (ps.filter fun q => decide (facsI q = facsI own)).headD []
def dueI (ps : List Pw) : List Fm := (ps.filter fun own => !decide (lstI ps own = own)).map fun own => [(lstI ps own, -1), (own, 1)]
def btoI (g : Kd) (sums : List Nat) : List Fm := isrt encF (((isrt encP (fitp (shows g) sums)).foldl (fun l p => grp l (facsI p) p) ([] : Gr)).flatMap fun x => nlot x.2)
theorem facs_I : facs = facsI := by
  funext p
  unfold facs facsI
  rw [fsrt_M]
theorem lst_I : lst = lstI := by
  funext ps own
  unfold lst lstI
  rw [facs_I]
theorem due_I (g : Kd) (sums : List Nat) : srt encF (dueL (bps g sums)) = isrt encF (dueI (bpsI g sums)) := by
  unfold dueL dueI bps bpsI
  rw [lst_I, fsrt_F, fsrt_P]
theorem bto_I (g : Kd) (sums : List Nat) : bto g sums = btoI g sums := by
  unfold bto btoI nbl grpF
  rw [facs_I, fsrt_F, fsrt_P]
def dueB (g : Kd) (sums : List Nat) : Bool := decide (SumOk sums) && (decide (0 < sums.length) && decide (isrt encF (dueI (bpsI g sums)) = btoI g sums))
theorem kinds_B : ∀ n ∈ [1, 2], ∀ g ∈ kinds n, ∀ t ∈ [1, 2, 3], ∀ sums ∈ splits t n, dueB g sums = true := by decide +kernel
theorem kinds_due {n t : Nat} {g : Kd} {sums : List Nat} (hn : n ∈ [1, 2]) (hg : g ∈ kinds n) (ht : t ∈ [1, 2, 3]) (hs : sums ∈ splits t n) : SumOk sums ∧ 0 < sums.length ∧ srt encF (dueL (bps g sums)) = bto g sums := by
  have h := kinds_B n hn g hg t ht sums hs
  unfold dueB at h
  rw [Bool.and_eq_true, Bool.and_eq_true] at h
  exact ⟨of_decide_eq_true h.1, of_decide_eq_true h.2.1, by rw [due_I, bto_I]; exact of_decide_eq_true h.2.2⟩
end NB
end S_NbM12

section S_NbM13
set_option Elab.async false
set_option linter.all false
set_option maxRecDepth 100000
set_option maxHeartbeats 4000000
namespace NB
open PySem PySem.Spec PyProof.Rows L2 PySem.W

/-- the noughts of the basis: two powers, the first of them the least, with one lot of factors -/
def twoB (g : Kd) (sums : List Nat) : Bool := (btoI g sums).all fun f => match f with
  | [(q, a), (p, b)] => decide (a = -1) && (decide (b = 1) && (decide (facsI q = facsI p) && (decide (q ∈ bpsI g sums) && (decide (p ∈ bpsI g sums) && (decide (q ≠ p) && decide (lstI (bpsI g sums) p = q))))))
  | _ => false
theorem kinds_two : ∀ n ∈ [1, 2], ∀ g ∈ kinds n, ∀ t ∈ [1, 2, 3], ∀ sums ∈ splits t n, twoB g sums = true := by decide +kernel
/-- each power that is not a least one is told once -/
def onceB (g : Kd) (sums : List Nat) : Bool := (bpsI g sums).all fun p => decide (lstI (bpsI g sums) p = p) || decide ((btoI g sums).filter (fun f => decide ((f.getD 1 ([], 0)).1 = p)) = [[(lstI (bpsI g sums) p, -1), (p, 1)]])
theorem kinds_once : ∀ n ∈ [1, 2], ∀ g ∈ kinds n, ∀ t ∈ [1, 2, 3], ∀ sums ∈ splits t n, onceB g sums = true := by decide +kernel
end NB
end S_NbM13

section S_NbL1
set_option Elab.async false
set_option linter.all false
set_option maxRecDepth 100000
set_option maxHeartbeats 4000000
namespace NB
open PySem PySem.Spec PyProof.Rows L2 PySem.W

/-! ### gathering is linear -/
def coef : Fm → Pw → Rat
  | [], _ => 0
  | x :: l, k => (if x.1 = k then x.2 else 0) + coef l k
theorem coef_append (a b : Fm) (k : Pw) : coef (a ++ b) k = coef a k + coef b k := by
  induction a with
  | nil => rw [List.nil_append]; show coef b k = 0 + coef b k; grind
  | cons x a ih => rw [List.cons_append, coef, coef, ih]; grind
theorem coef_neg (a : Fm) (k : Pw) : coef (negF a) k = -coef a k := by
  unfold negF
  induction a with
  | nil => simp [coef]
  | cons x a ih => rw [List.map_cons, coef, coef, ih]; split <;> grind
theorem val_set (l : Fm) (j k : Pw) (v : Rat) : val (put l j v) k = if j = k then v else val l k := by
  unfold val
  rw [lk_put]
  by_cases h : j = k
  · rw [if_pos h, if_pos h]; rfl
  · rw [if_neg h, if_neg h]
theorem val_fold : ∀ (ps l : Fm) (k : Pw), val (ps.foldl gstep l) k = val l k + coef ps k
  | [], l, k => by show val l k = val l k + 0; grind
  | p :: ps, l, k => by
    rw [List.foldl_cons, val_fold ps, coef]
    have : gstep l p = put l p.1 (val l p.1 + p.2) := rfl
    rw [this, val_set]
    by_cases h : p.1 = k
    · rw [if_pos h, if_pos h, h]; grind
    · rw [if_neg h, if_neg h]; grind
theorem val_gfold (ps : Fm) (k : Pw) : val (gfold ps) k = coef ps k := by
  unfold gfold
  rw [val_fold]
  show 0 + _ = _
  grind
theorem gfold_nodup (ps : Fm) : ((gfold ps).map (·.1)).Nodup := by
  have : ∀ (ps l : Fm), (l.map (·.1)).Nodup → ((ps.foldl gstep l).map (·.1)).Nodup := by
    intro ps
    induction ps with
    | nil => intro l h; exact h
    | cons p ps ih => intro l h; exact ih _ (nodup_put h _ _)
  exact this ps [] List.nodup_nil
/-- the keys of what is gathered -/
def gkeys (ps : Fm) : List Pw := (srt encP ((gfold ps).map (·.1))).filter fun k => decide (coef ps k ≠ 0)
theorem gath_eq (ps : Fm) : gath ps = (gkeys ps).map fun k => (k, coef ps k) := by
  unfold gath gkeys
  congr 1
  · funext k; rw [val_gfold]
  · refine List.filter_congr fun k _ => ?_
    rw [val_gfold]
theorem gkeys_nodup (ps : Fm) : (gkeys ps).Nodup := List.Pairwise.filter _ ((srt_perm encP _).nodup_iff.mpr (gfold_nodup ps))
theorem gkeys_mem {ps : Fm} {k : Pw} : k ∈ gkeys ps ↔ coef ps k ≠ 0 := by
  unfold gkeys
  rw [List.mem_filter, (srt_perm encP _).mem_iff]
  constructor
  · intro h; exact of_decide_eq_true h.2
  · intro h
    refine ⟨?_, decide_eq_true h⟩
    rw [← lk_mem]
    cases e : lk (gfold ps) k with
    | some v => rfl
    | none =>
      rw [← val_gfold] at h
      unfold val at h
      rw [e] at h
      exact absurd rfl h
theorem gkeys_sorted (ps : Fm) : (gkeys ps).Pairwise (fun a b => dataLe false encP a b = true) := List.Pairwise.filter _ (sort_pairwise (sortLe_total _ _ _) _)
theorem gkeys_ext {ps qs : Fm} (h : ∀ k, coef ps k = coef qs k) : gkeys ps = gkeys qs :=
  List.Perm.eq_of_pairwise (le := fun a b => dataLe false encP a b = true) (fun a b _ _ h1 h2 => le_anti ud_P h1 h2) (gkeys_sorted ps) (gkeys_sorted qs) ((List.perm_ext_iff_of_nodup (gkeys_nodup ps) (gkeys_nodup qs)).mpr fun k => by rw [gkeys_mem, gkeys_mem, h k])
/-- what is gathered is told by its coefficients -/
theorem gath_ext {ps qs : Fm} (h : ∀ k, coef ps k = coef qs k) : gath ps = gath qs := by
  rw [gath_eq, gath_eq, gkeys_ext h]
  exact List.map_congr_left fun k _ => by rw [h k]
theorem coef_map {ks : List Pw} {c : Pw → Rat} (hn : ks.Nodup) (k : Pw) : coef (ks.map fun j => (j, c j)) k = if k ∈ ks then c k else 0 := by
  induction ks with
  | nil => simp [coef]
  | cons j ks ih =>
    obtain ⟨h1, h2⟩ := List.nodup_cons.mp hn
    rw [List.map_cons, coef, ih h2]
    by_cases e : j = k
    · subst e
      rw [if_pos rfl, if_neg h1, if_pos List.mem_cons_self]; grind
    · rw [if_neg e]
      by_cases m : k ∈ ks
      · rw [if_pos m, if_pos (List.mem_cons_of_mem _ m)]; grind
      · rw [if_neg m, if_neg (fun h => (List.mem_cons.mp h).elim (fun h => e h.symm) m)]; grind
theorem coef_gath (ps : Fm) (k : Pw) : coef (gath ps) k = coef ps k := by
  rw [gath_eq, coef_map (gkeys_nodup ps)]
  by_cases h : k ∈ gkeys ps
  · rw [if_pos h]
  · rw [if_neg h]
    have := mt gkeys_mem.mpr h
    exact (Classical.not_not.mp this).symm
theorem gath_nil {ps : Fm} : gath ps = [] ↔ ∀ k, coef ps k = 0 := by
  rw [gath_eq, List.map_eq_nil_iff]
  constructor
  · intro h k
    have : k ∉ gkeys ps := by rw [h]; simp
    exact Classical.not_not.mp (mt gkeys_mem.mpr this)
  · intro h
    refine List.eq_nil_iff_forall_not_mem.mpr fun k hk => gkeys_mem.mp hk (h k)
end NB
end S_NbL1

section S_NbL2
set_option Elab.async false
set_option linter.all false
set_option maxRecDepth 100000
set_option maxHeartbeats 4000000
namespace NB
open PySem PySem.Spec PyProof.Rows L2 PySem.W

/-! ### what is gone -/
/-- the pairs with the powers of S put to their least ones -/
def rem (lf : Pw → Pw) (S : List Pw) (ps : Fm) : Fm := ps.map fun x => (if x.1 ∈ S then lf x.1 else x.1, x.2)
theorem rem_step (lf : Pw → Pw) (S : List Pw) {p : Pw} (hp : p ∉ S) : ∀ (ps : Fm) (k : Pw), coef (rem lf (p :: S) ps) k = coef (rem lf S ps) k + (if lf p = k then coef ps p else 0) - (if p = k then coef ps p else 0)
  | [], k => by
    show (0 : Rat) = 0 + (if lf p = k then 0 else 0) - (if p = k then 0 else 0)
    split <;> split <;> grind
  | x :: ps, k => by
    have ih := rem_step lf S hp ps k
    show (if (if x.1 ∈ p :: S then lf x.1 else x.1) = k then x.2 else 0) + coef (rem lf (p :: S) ps) k = ((if (if x.1 ∈ S then lf x.1 else x.1) = k then x.2 else 0) + coef (rem lf S ps) k) + (if lf p = k then ((if x.1 = p then x.2 else 0) + coef ps p) else 0) - (if p = k then ((if x.1 = p then x.2 else 0) + coef ps p) else 0)
    rw [ih]
    by_cases e : x.1 = p
    · rw [e, if_pos List.mem_cons_self, if_neg hp, if_pos rfl]
      by_cases h1 : lf p = k <;> by_cases h2 : p = k <;> simp only [h1, h2, if_true, if_false] <;> grind
    · rw [if_neg e]
      have : (x.1 ∈ p :: S) ↔ x.1 ∈ S := by
        rw [List.mem_cons]
        exact ⟨fun h => h.resolve_left e, .inr⟩
      by_cases hS : x.1 ∈ S
      · rw [if_pos (this.mpr hS), if_pos hS]
        by_cases h1 : lf p = k <;> by_cases h2 : p = k <;> simp only [h1, h2, if_true, if_false] <;> grind
      · rw [if_neg (mt this.mp hS), if_neg hS]
        by_cases h1 : lf p = k <;> by_cases h2 : p = k <;> simp only [h1, h2, if_true, if_false] <;> grind
/-- one told nought taken off by its bit -/
theorem gin_step (lf : Pw → Pw) (S : List Pw) {p : Pw} (hp : p ∉ S) (ps : Fm) : gath (gath (rem lf S ps) ++ negF (scl [(lf p, -1), (p, 1)] (coef ps p))) = gath (rem lf (p :: S) ps) := by
  refine gath_ext fun k => ?_
  rw [coef_append, coef_gath, coef_neg, rem_step lf S hp]
  show coef (rem lf S ps) k + -((if lf p = k then -1 * coef ps p else 0) + ((if p = k then 1 * coef ps p else 0) + 0)) = _
  by_cases h1 : lf p = k <;> by_cases h2 : p = k <;> simp only [h1, h2, if_true, if_false] <;> grind
theorem rem_nil (lf : Pw → Pw) (ps : Fm) : rem lf [] ps = ps := by
  unfold rem
  rw [List.map_congr_left (g := id) (fun x _ => by simp)]
  exact List.map_id _
end NB
end S_NbL2

section S_NbL3
set_option Elab.async false
set_option linter.all false
set_option maxRecDepth 100000
set_option maxHeartbeats 4000000
namespace NB
open PySem PySem.Spec PyProof.Rows L2 PySem.W

theorem gin_no (own : Fm) : ∀ (l : Fm) (g : Fm), (∀ x ∈ l, x.1 ≠ (own.getD 1 ([], 0)).1) → l.foldl (gin own) g = g
  | [], g, _ => rfl
  | x :: l, g, h => by
    rw [List.foldl_cons]
    have : gin own g x = g := if_neg (h x List.mem_cons_self)
    rw [this]
    exact gin_no own l g fun y hy => h y (List.mem_cons_of_mem _ hy)
theorem gin_fold (own : Fm) (c : Pw → Rat) : ∀ (ks : List Pw) (g : Fm), ks.Nodup → (ks.map fun k => (k, c k)).foldl (gin own) g = if (own.getD 1 ([], 0)).1 ∈ ks then gath (g ++ negF (scl own (c (own.getD 1 ([], 0)).1))) else g
  | [], g, _ => by simp
  | j :: ks, g, hn => by
    obtain ⟨h1, h2⟩ := List.nodup_cons.mp hn
    rw [List.map_cons, List.foldl_cons]
    by_cases e : j = (own.getD 1 ([], 0)).1
    · have : gin own g (j, c j) = gath (g ++ negF (scl own (c j))) := if_pos e
      rw [this, gin_no own _ _ (fun x hx => by
        obtain ⟨k, hk, rfl⟩ := List.mem_map.mp hx
        intro q
        exact h1 (by rw [e, ← q]; exact hk)), ← e, if_pos List.mem_cons_self]
    · have : gin own g (j, c j) = g := if_neg e
      rw [this, gin_fold own c ks g h2]
      by_cases m : (own.getD 1 ([], 0)).1 ∈ ks
      · rw [if_pos m, if_pos (List.mem_cons_of_mem _ m)]
      · rw [if_neg m, if_neg (fun h => (List.mem_cons.mp h).elim (fun h => e h.symm) m)]
theorem gout_step (lf : Pw → Pw) (S : List Pw) {p : Pw} (hp : p ∉ S) (ps : Fm) : gout (gath ps) (gath (rem lf S ps)) [(lf p, -1), (p, 1)] = gath (rem lf (p :: S) ps) := by
  unfold gout
  rw [gath_eq ps, gin_fold _ _ _ _ (gkeys_nodup ps)]
  show (if p ∈ gkeys ps then gath (gath (rem lf S ps) ++ negF (scl [(lf p, -1), (p, 1)] (coef ps p))) else gath (rem lf S ps)) = _
  by_cases h : p ∈ gkeys ps
  · rw [if_pos h, gin_step lf S hp]
  · rw [if_neg h]
    have z : coef ps p = 0 := Classical.not_not.mp (mt gkeys_mem.mpr h)
    refine gath_ext fun k => ?_
    rw [rem_step lf S hp, z]
    split <;> split <;> grind
/-- after the told ones of the powers ts -/
theorem gone_fold (lf : Pw → Pw) (ps : Fm) : ∀ (ts S : List Pw), ts.Nodup → (∀ p ∈ ts, p ∉ S) → (ts.map fun p => ([(lf p, -1), (p, 1)] : Fm)).foldl (gout (gath ps)) (gath (rem lf S ps)) = gath (rem lf (ts.reverse ++ S) ps)
  | [], S, _, _ => rfl
  | p :: ts, S, hn, hS => by
    obtain ⟨h1, h2⟩ := List.nodup_cons.mp hn
    rw [List.map_cons, List.foldl_cons, gout_step lf S (hS p List.mem_cons_self), gone_fold lf ps ts (p :: S) h2 (fun q hq => by
      rw [List.mem_cons]
      rintro (e | m)
      · exact h1 (e ▸ hq)
      · exact hS q (List.mem_cons_of_mem _ hq) m), List.reverse_cons, List.append_assoc]
    rfl
end NB
end S_NbL3

section S_NbL4
set_option Elab.async false
set_option linter.all false
set_option maxRecDepth 100000
set_option maxHeartbeats 4000000
namespace NB
open PySem PySem.Spec PyProof.Rows L2 PySem.W

/-- a linear functional -/
def lin (w : Pw → Rat) : Fm → Rat
  | [] => 0
  | x :: l => x.2 * w x.1 + lin w l
theorem lin_append (w : Pw → Rat) : ∀ a b : Fm, lin w (a ++ b) = lin w a + lin w b
  | [], b => by show lin w b = 0 + lin w b; grind
  | x :: a, b => by
    show x.2 * w x.1 + lin w (a ++ b) = x.2 * w x.1 + lin w a + lin w b
    rw [lin_append w a b]; grind
theorem lin_put (w : Pw → Rat) (k : Pw) (v : Rat) : ∀ l : Fm, lin w (put l k v) = lin w l + (v - val l k) * w k
  | [] => by
    show v * w k + 0 = 0 + (v - 0) * w k
    grind
  | (a, u) :: l => by
    have ih := lin_put w k v l
    unfold val at ih ⊢
    by_cases e : a = k
    · rw [put_eq e, lk_eq e]
      show v * w a + lin w l = u * w a + lin w l + (v - u) * w k
      rw [e]; grind
    · rw [put_ne e, lk_ne e]
      show u * w a + lin w (put l k v) = u * w a + lin w l + _
      rw [ih]; grind
theorem lin_fold (w : Pw → Rat) : ∀ (ps l : Fm), lin w (ps.foldl gstep l) = lin w l + lin w ps
  | [], l => by show lin w l = lin w l + 0; grind
  | p :: ps, l => by
    rw [List.foldl_cons, lin_fold w ps]
    have : gstep l p = put l p.1 (val l p.1 + p.2) := rfl
    rw [this, lin_put]
    show _ = lin w l + (p.2 * w p.1 + lin w ps)
    grind
theorem lin_perm (w : Pw → Rat) {a b : Fm} (h : a.Perm b) : lin w a = lin w b := by
  induction h with
  | nil => rfl
  | cons x _ ih => show x.2 * w x.1 + _ = x.2 * w x.1 + _; rw [ih]
  | swap x y l => show y.2 * w y.1 + (x.2 * w x.1 + lin w l) = x.2 * w x.1 + (y.2 * w y.1 + lin w l); grind
  | trans _ _ i1 i2 => exact i1.trans i2
theorem lin_filter (w : Pw → Rat) (c : Pw → Rat) : ∀ ks : List Pw, lin w ((ks.filter fun k => decide (c k ≠ 0)).map fun k => (k, c k)) = lin w (ks.map fun k => (k, c k))
  | [] => rfl
  | k :: ks => by
    have ih := lin_filter w c ks
    by_cases h : c k = 0
    · rw [List.filter_cons_of_neg (by simpa using h), ih]
      show _ = c k * w k + _
      rw [h]; grind
    · rw [List.filter_cons_of_pos (by simpa using h)]
      show c k * w k + _ = c k * w k + _
      rw [ih]
theorem keys_val : ∀ l : Fm, (l.map (·.1)).Nodup → (l.map (·.1)).map (fun k => (k, val l k)) = l
  | [], _ => rfl
  | (a, u) :: l, h => by
    rw [List.map_cons, List.nodup_cons] at h
    have ih := keys_val l h.2
    rw [List.map_cons, List.map_cons]
    have e1 : val ((a, u) :: l) a = u := by unfold val; rw [lk_eq rfl]; rfl
    rw [e1]
    congr 1
    refine Eq.trans (List.map_congr_left fun k hk => ?_) ih
    have ne : a ≠ k := fun q => h.1 (by rw [q]; exact hk)
    unfold val
    rw [lk_ne ne]
/-- gathering keeps all linear functionals -/
theorem lin_gath (w : Pw → Rat) (ps : Fm) : lin w (gath ps) = lin w ps := by
  have e : lin w (gath ps) = lin w (((srt encP ((gfold ps).map (·.1))).map fun k => (k, coef ps k))) := by
    rw [gath_eq]
    exact lin_filter w (coef ps) _
  rw [e, lin_perm w ((srt_perm encP _).map _)]
  have : ((gfold ps).map (·.1)).map (fun k => (k, coef ps k)) = gfold ps := by
    have h := keys_val (gfold ps) (gfold_nodup ps)
    exact Eq.trans (List.map_congr_left fun k _ => by rw [val_gfold]) h
  rw [this]
  unfold gfold
  rw [lin_fold]
  show 0 + _ = _
  grind
end NB
end S_NbL4

section S_NbL5
set_option Elab.async false
set_option linter.all false
set_option maxRecDepth 100000
set_option maxHeartbeats 4000000
namespace NB
open PySem PySem.Spec PyProof.Rows L2 PySem.W

theorem coef_push (φ : Pw → Pw) (k : Pw) : ∀ f : Fm, coef (f.map fun x => (φ x.1, x.2)) k = lin (fun j => if φ j = k then 1 else 0) f
  | [] => rfl
  | x :: f => by
    have ih := coef_push φ k f
    show (if φ x.1 = k then x.2 else 0) + coef (f.map fun x => (φ x.1, x.2)) k = x.2 * (if φ x.1 = k then 1 else 0) + lin _ f
    rw [ih]
    split <;> grind
theorem lin_congr {w v : Pw → Rat} : ∀ {f : Fm}, (∀ x ∈ f, w x.1 = v x.1) → lin w f = lin v f
  | [], _ => rfl
  | x :: f, h => by
    show x.2 * w x.1 + lin w f = x.2 * v x.1 + lin v f
    rw [h x List.mem_cons_self, lin_congr fun y hy => h y (List.mem_cons_of_mem _ hy)]
theorem lin_zero {w : Pw → Rat} : ∀ {f : Fm}, (∀ x ∈ f, w x.1 = 0) → lin w f = 0
  | [], _ => rfl
  | x :: f, h => by
    show x.2 * w x.1 + lin w f = 0
    rw [h x List.mem_cons_self, lin_zero fun y hy => h y (List.mem_cons_of_mem _ hy)]; grind
theorem wish_nil {f : Fm} : wish f = [] ↔ ∀ k, lin (fun j => if facs j = k then 1 else 0) f = 0 := by
  unfold wish
  rw [gath_nil]
  exact forall_congr' fun k => by rw [coef_push]
theorem wish_gath (ps : Fm) : wish (gath ps) = wish ps := by
  unfold wish
  exact gath_ext fun k => by rw [coef_push, coef_push, lin_gath]
/-- a nought is what leaves nothing when each power is put to its least one -/
theorem nought_least {lf : Pw → Pw} {ps : Fm} (h1 : ∀ x ∈ ps, facs (lf x.1) = facs x.1) (h2 : ∀ x ∈ ps, ∀ y ∈ ps, facs x.1 = facs y.1 → lf x.1 = lf y.1) : wish ps = [] ↔ gath (ps.map fun x => (lf x.1, x.2)) = [] := by
  rw [wish_nil, gath_nil]
  constructor
  · intro h k
    rw [coef_push]
    by_cases e : ∃ x ∈ ps, lf x.1 = k
    · obtain ⟨x, hx, rfl⟩ := e
      refine Eq.trans (lin_congr fun y hy => ?_) (h (facs x.1))
      by_cases q : facs y.1 = facs x.1
      · rw [if_pos q, if_pos (h2 y hy x hx q)]
      · rw [if_neg q, if_neg fun z => q (by rw [← h1 y hy, z, h1 x hx])]
    · exact lin_zero fun y hy => if_neg fun z => e ⟨y, hy, z⟩
  · intro h k
    by_cases e : ∃ x ∈ ps, facs x.1 = k
    · obtain ⟨x, hx, rfl⟩ := e
      have := h (lf x.1)
      rw [coef_push] at this
      refine Eq.trans (lin_congr fun y hy => ?_) this
      by_cases q : facs y.1 = facs x.1
      · rw [if_pos q, if_pos (h2 y hy x hx q)]
      · rw [if_neg q, if_neg fun z => q (by rw [← h1 y hy, z, h1 x hx])]
    · exact lin_zero fun y hy => if_neg fun z => e ⟨y, hy, z⟩
end NB
end S_NbL5

section S_NbM14
set_option Elab.async false
set_option linter.all false
set_option maxRecDepth 100000
set_option maxHeartbeats 4000000
namespace NB
open PySem PySem.Spec PyProof.Rows L2 PySem.W

/-- the powers that are told, each once; all others are the least of their class -/
def toldP (told : List Fm) : List Pw := told.map fun f => (f.getD 1 ([], 0)).1
def tsB (g : Kd) (sums : List Nat) : Bool := decide (toldP (btoI g sums)).Nodup && (decide (bpsI g sums).Nodup && ((bpsI g sums).all fun p => decide (lstI (bpsI g sums) p = p) || decide (p ∈ toldP (btoI g sums))))
theorem kinds_ts : ∀ n ∈ [1, 2], ∀ g ∈ kinds n, ∀ t ∈ [1, 2, 3], ∀ sums ∈ splits t n, tsB g sums = true := by decide +kernel
end NB
end S_NbM14

section S_NbL6
set_option Elab.async false
set_option linter.all false
set_option maxRecDepth 100000
set_option maxHeartbeats 4000000
namespace NB
open PySem PySem.Spec PyProof.Rows L2 PySem.W

theorem two_at {g : Kd} {sums : List Nat} (h : twoB g sums = true) {f : Fm} (hf : f ∈ btoI g sums) : ∃ q p : Pw, f = [(q, -1), (p, 1)] ∧ facs q = facs p ∧ q ∈ bpsI g sums ∧ p ∈ bpsI g sums ∧ q ≠ p ∧ lstI (bpsI g sums) p = q := by
  have h := List.all_eq_true.mp h f hf
  match f, h with
  | [(q, a), (p, b)], h =>
    simp only [Bool.and_eq_true, decide_eq_true_eq] at h
    obtain ⟨rfl, rfl, h3, h4, h5, h6, h7⟩ := h
    exact ⟨q, p, rfl, by rw [facs_I]; exact h3, h4, h5, h6, h7⟩
  | [], h => cases h
  | [_], h => cases h
  | _ :: _ :: _ :: _, h => cases h
theorem told_map {g : Kd} {sums : List Nat} (h : twoB g sums = true) : btoI g sums = (toldP (btoI g sums)).map fun p => [(lstI (bpsI g sums) p, -1), (p, 1)] := by
  unfold toldP
  rw [List.map_map]
  refine (List.map_id (btoI g sums)).symm.trans (List.map_congr_left fun f hf => ?_)
  obtain ⟨q, p, rfl, _, _, _, _, e⟩ := two_at h hf
  show [(q, -1), (p, 1)] = [(lstI (bpsI g sums) p, -1), (p, 1)]
  rw [e]
theorem ts_at {g : Kd} {sums : List Nat} (h : tsB g sums = true) : (toldP (btoI g sums)).Nodup ∧ (bpsI g sums).Nodup ∧ ∀ p ∈ bpsI g sums, lstI (bpsI g sums) p = p ∨ p ∈ toldP (btoI g sums) := by
  unfold tsB at h
  rw [Bool.and_eq_true, Bool.and_eq_true] at h
  refine ⟨of_decide_eq_true h.1, of_decide_eq_true h.2.1, fun p hp => ?_⟩
  have := List.all_eq_true.mp h.2.2 p hp
  rw [Bool.or_eq_true] at this
  exact this.imp of_decide_eq_true of_decide_eq_true
/-- what is gone in the end -/
theorem gone_all {g : Kd} {sums : List Nat} (h : twoB g sums = true) (ht : tsB g sums = true) {ps3 : Fm} (h3 : ∀ x ∈ ps3, x.1 ∈ bpsI g sums) : gone (btoI g sums) (gath ps3) = gath (ps3.map fun x => (lstI (bpsI g sums) x.1, x.2)) := by
  obtain ⟨t1, _, t3⟩ := ts_at ht
  have e := gone_fold (lstI (bpsI g sums)) ps3 (toldP (btoI g sums)) [] t1 (fun p _ => by simp)
  rw [rem_nil, ← told_map h] at e
  unfold gone
  rw [e]
  congr 1
  unfold rem
  refine List.map_congr_left fun x hx => ?_
  by_cases m : x.1 ∈ (toldP (btoI g sums)).reverse ++ []
  · rw [if_pos m]
  · rw [if_neg m]
    rcases t3 x.1 (h3 x hx) with q | q
    · rw [q]
    · exact absurd (by simpa using q) m
theorem lin_neg (w : Pw → Rat) : ∀ f : Fm, lin w (negF f) = -lin w f
  | [] => by show (0 : Rat) = -0; grind
  | x :: f => by
    have ih := lin_neg w f
    show -x.2 * w x.1 + lin w (negF f) = -(x.2 * w x.1 + lin w f)
    rw [ih]; grind
theorem lin_push (w : Pw → Rat) (φ : Pw → Pw) : ∀ f : Fm, lin w (f.map fun x => (φ x.1, x.2)) = lin (fun j => w (φ j)) f
  | [] => rfl
  | x :: f => by
    show x.2 * w (φ x.1) + lin w (f.map fun x => (φ x.1, x.2)) = x.2 * w (φ x.1) + lin _ f
    rw [lin_push w φ f]
/-- what is gone is a nought -/
theorem gone_nought {lf : Pw → Pw} {ps : Fm} (h1 : ∀ x ∈ ps, facs (lf x.1) = facs x.1) : wish (gath (gath ps ++ negF (gath (ps.map fun x => (lf x.1, x.2))))) = [] := by
  rw [wish_gath, wish_nil]
  intro k
  rw [lin_append, lin_neg, lin_gath, lin_gath, lin_push]
  have : lin (fun j => if facs (lf j) = k then (1 : Rat) else 0) ps = lin (fun j => if facs j = k then (1 : Rat) else 0) ps := lin_congr fun x hx => by rw [h1 x hx]
  rw [this]; grind
theorem gath_bd' {b : Nat} {ps : Fm} (h : BdF b ps) : BdF ((b + 1) * ps.length) (gath ps) := fun x hx => by
  unfold gath at hx
  obtain ⟨k, _, rfl⟩ := List.mem_map.mp hx
  have := gfold_bd h ps.length (Nat.le_refl _)
  rw [List.take_length] at this
  exact this.val k
theorem gath_len' (ps : Fm) : (gath ps).length ≤ ps.length := by
  unfold gath
  rw [List.length_map]
  refine Nat.le_trans (List.length_filter_le _ _) ?_
  rw [(srt_perm encP _).length_eq, List.length_map]
  exact gfold_len' ps
theorem gath_key {ps : Fm} {x : Pw × Rat} (h : x ∈ gath ps) : ∃ y ∈ ps, y.1 = x.1 := by
  rw [gath_eq] at h
  obtain ⟨k, hk, rfl⟩ := List.mem_map.mp h
  have h0 := gkeys_mem.mp hk
  refine Classical.byContradiction fun n => h0 ?_
  clear h0 hk h
  induction ps with
  | nil => rfl
  | cons y ps ih =>
    show (if y.1 = k then y.2 else 0) + coef ps k = 0
    rw [if_neg fun e => n ⟨y, List.mem_cons_self, e⟩, ih fun ⟨z, hz, e⟩ => n ⟨z, List.mem_cons_of_mem _ hz, e⟩]; grind
end NB
end S_NbL6

section S_NbL7
set_option Elab.async false
set_option linter.all false
set_option maxRecDepth 100000
set_option maxHeartbeats 4000000
namespace NB
open PySem PySem.Spec PyProof.Rows L2 PySem.W

theorem bps_I (g : Kd) (sums : List Nat) : bps g sums = bpsI g sums := by
  unfold bps bpsI
  rw [fsrt_P]
theorem wish_two {q p : Pw} (h : facs q = facs p) : wish [(q, -1), (p, 1)] = [] := by
  rw [wish_nil]
  intro k
  show -1 * (if facs q = k then (1 : Rat) else 0) + (1 * (if facs p = k then (1 : Rat) else 0) + 0) = 0
  rw [h]; grind
theorem negF_bd {b : Nat} {f : Fm} (h : BdF b f) : BdF b (negF f) := fun x hx => by
  obtain ⟨y, hy, rfl⟩ := List.mem_map.mp hx
  obtain ⟨h1, h2⟩ := h y hy
  exact ⟨by show (-y.2).num.natAbs ≤ _; rw [Rat.neg_num, Int.natAbs_neg]; exact h1, by show (-y.2).den ≤ _; rw [Rat.neg_den]; exact h2⟩
theorem bd_app {b : Nat} {f g : Fm} (h1 : BdF b f) (h2 : BdF b g) : BdF b (f ++ g) := fun x hx => (List.mem_append.mp hx).elim (h1 x) (h2 x)
theorem scl_bd {b : Nat} {q p : Pw} {c : Rat} (h : Bd b c) : BdF b (scl [(q, -1), (p, 1)] c) := fun x hx => by
  have : x = (q, -1 * c) ∨ x = (p, 1 * c) := by simpa [scl] using hx
  rcases this with rfl | rfl
  · have e : (-1 : Rat) * c = -c := by grind
    show Bd b (-1 * c)
    rw [e]
    exact ⟨by rw [Rat.neg_num, Int.natAbs_neg]; exact h.1, by rw [Rat.neg_den]; exact h.2⟩
  · have e : (1 : Rat) * c = c := by grind
    show Bd b (1 * c)
    rw [e]; exact h
theorem lst_facs {ps : List Pw} {p : Pw} (h : p ∈ ps) : facs (lstI ps p) = facs p := by
  rw [← lst_I]
  exact (lst_mem h).2.1
theorem lst_cong {ps : List Pw} {p q : Pw} (h : facs p = facs q) : lstI ps p = lstI ps q := by
  rw [facs_I] at h
  unfold lstI
  rw [h]
theorem fin_ok {g : Kd} {sums : List Nat} (h : twoB g sums = true) (ht : tsB g sums = true) (hz : ∀ p ∈ bpsI g sums, SzP p) {ps3 : Fm} (hl : ps3.length = 3) (h3 : ∀ x ∈ ps3, x.1 ∈ bpsI g sums ∧ x.2 ∈ ratios) : FinOk (btoI g sums) (gath ps3) := by
  have hb : BdF 2 ps3 := fun x hx => ratios_bd _ (h3 x hx).2
  have b9 : BdF 9 (gath ps3) := by have := gath_bd' hb; rw [hl] at this; exact this
  have l9 : (gath ps3).length ≤ 3 := by have := gath_len' ps3; omega
  have hg := gone_all h ht fun x hx => (h3 x hx).1
  have f1 : ∀ x ∈ ps3, facs (lstI (bpsI g sums) x.1) = facs x.1 := fun x hx => lst_facs (h3 x hx).1
  have hb2 : BdF 2 (ps3.map fun x => (lstI (bpsI g sums) x.1, x.2)) := fun x hx => by
    obtain ⟨y, hy, rfl⟩ := List.mem_map.mp hx
    exact hb y hy
  have g9 : BdF 9 (gath (ps3.map fun x => (lstI (bpsI g sums) x.1, x.2))) := by have := gath_bd' hb2; rw [List.length_map, hl] at this; exact this
  have gl : (gath (ps3.map fun x => (lstI (bpsI g sums) x.1, x.2))).length ≤ 3 := by have := gath_len' (ps3.map fun x => (lstI (bpsI g sums) x.1, x.2)); rw [List.length_map] at this; omega
  have bl := bd_app b9 (negF_bd g9)
  have ll : (gath ps3 ++ negF (gath (ps3.map fun x => (lstI (bpsI g sums) x.1, x.2)))).length ≤ 6 := by rw [List.length_append]; unfold negF; rw [List.length_map]; omega
  have bz := gath_bd' bl
  have lz := gath_len' (gath ps3 ++ negF (gath (ps3.map fun x => (lstI (bpsI g sums) x.1, x.2))))
  refine ⟨⟨9, ⟨b9, by omega, by omega, by decide⟩, ⟨by omega, fun x hx => ?_⟩, fun x hx => (b9 x hx).mono (by decide)⟩, ⟨9, ?_⟩, ⟨60, ?_⟩, ?_, ?_, ?_⟩
  · obtain ⟨y, hy, e⟩ := gath_key hx
    rw [← e]; exact hz _ (h3 y hy).1
  · rw [hg]; exact ⟨bl, by omega, by omega, by decide⟩
  · rw [hg]; exact ⟨fun x hx => (bz x hx).mono (by omega), by omega, by omega, by decide⟩
  · rw [hg]
    refine ⟨by omega, fun x hx => ?_⟩
    obtain ⟨y, hy, e⟩ := gath_key hx
    rw [← e]
    rcases List.mem_append.mp hy with hy | hy
    · obtain ⟨z, hz2, e2⟩ := gath_key hy
      rw [← e2]; exact hz _ (h3 z hz2).1
    · obtain ⟨v, hv, rfl⟩ := List.mem_map.mp hy
      obtain ⟨z, hz2, e2⟩ := gath_key hv
      obtain ⟨u, hu, rfl⟩ := List.mem_map.mp hz2
      show SzP v.1
      rw [← e2, ← lst_I]
      exact hz _ (lst_mem (h3 u hu).1).1
  · rw [hg, wish_gath]
    exact decide_eq_decide.mpr (nought_least f1 fun x hx y hy e => lst_cong e)
  · rw [hg]; exact gone_nought f1
end NB
end S_NbL7

section S_NbL8
set_option Elab.async false
set_option linter.all false
set_option maxRecDepth 100000
set_option maxHeartbeats 4000000
namespace NB
open PySem PySem.Spec PyProof.Rows L2 PySem.W

theorem goneOk {g : Kd} {sums : List Nat} (h : twoB g sums = true) (ht : tsB g sums = true) {ps3 : Fm} (hl : ps3.length = 3) (h3 : ∀ x ∈ ps3, x.1 ∈ bpsI g sums ∧ x.2 ∈ ratios) : GoneOk (btoI g sums) (gath ps3) := by
  intro i j own x hi hj hx
  obtain ⟨t1, _, t3⟩ := ts_at ht
  have hb : BdF 2 ps3 := fun x hx => ratios_bd _ (h3 x hx).2
  have b9 : BdF 9 (gath ps3) := by have := gath_bd' hb; rw [hl] at this; exact this
  obtain ⟨q, p, rfl, _, _, _, _, e⟩ := two_at h (List.mem_of_getElem? hi)
  have hx : x.1 = p := hx
  have G : (btoI g sums).take i = ((toldP (btoI g sums)).take i).map fun p => [(lstI (bpsI g sums) p, -1), (p, 1)] := by
    rw [List.map_take, ← told_map h]
  have e1 := gone_fold (lstI (bpsI g sums)) ps3 ((toldP (btoI g sums)).take i) [] (t1.sublist (List.take_sublist _ _)) (fun p _ => by simp)
  rw [rem_nil, ← G] at e1
  rw [e1, gin_no _ _ _ (fun y hy e2 => ?_)]
  · have hr : BdF 2 (rem (lstI (bpsI g sums)) (((toldP (btoI g sums)).take i).reverse ++ []) ps3) := fun y hy => by
      obtain ⟨z, hz, rfl⟩ := List.mem_map.mp hy
      exact hb z hz
    have lr : (rem (lstI (bpsI g sums)) (((toldP (btoI g sums)).take i).reverse ++ []) ps3).length = 3 := by unfold rem; rw [List.length_map, hl]
    have r9 := gath_bd' hr
    rw [lr] at r9
    have rl := gath_len' (rem (lstI (bpsI g sums)) (((toldP (btoI g sums)).take i).reverse ++ []) ps3)
    have ll : (gath (rem (lstI (bpsI g sums)) (((toldP (btoI g sums)).take i).reverse ++ []) ps3) ++ negF (scl [(q, -1), (p, 1)] x.2)).length ≤ 5 := by
      rw [List.length_append]
      show _ + 2 ≤ 5
      omega
    exact ⟨9, bd_app r9 (negF_bd (scl_bd (b9 x (List.mem_of_getElem? hj)))), by omega, by omega, by decide⟩
  · have e2 : y.1 = p := e2
    obtain ⟨a, la, ea⟩ := List.mem_iff_getElem.mp hy
    rw [List.length_take] at la
    rw [List.getElem_take] at ea
    have lj := (List.getElem?_eq_some_iff.mp hj).1
    have nd : ((gath ps3).map (·.1)).Nodup := by
      rw [gath_eq, List.map_map]
      exact (List.map_id (gkeys ps3)).symm ▸ gkeys_nodup ps3
    have hk := (List.getElem?_eq_some_iff.mp hj).2
    have := List.pairwise_iff_getElem.mp nd a j (by rw [List.length_map]; omega) (by rw [List.length_map]; exact lj) (by omega)
    exact this (by rw [List.getElem_map, List.getElem_map, ea, hk, e2, hx])
end NB
end S_NbL8

section S_NbL9
set_option Elab.async false
set_option linter.all false
set_option maxRecDepth 100000
set_option maxHeartbeats 4000000
namespace NB
open PySem PySem.Spec PyProof.Rows L2 PySem.W

theorem bas_ok {n t : Nat} {g : Kd} {sums : List Nat} (hn : n ∈ [1, 2]) (hg : g ∈ kinds n) (ht : t ∈ [1, 2, 3]) (hs : sums ∈ splits t n) : BasOk g sums := by
  have k := (kinds_ok n hn g hg).1
  obtain ⟨s1, s2, s3⟩ := kinds_due hn hg ht hs
  have h2 := kinds_two n hn g hg t ht sums hs
  have ht2 := kinds_ts n hn g hg t ht sums hs
  have hz : ∀ p ∈ bpsI g sums, SzP p := by rw [← bps_I]; exact bps_sz k s1
  refine ⟨k, s1, s2, s3, fun f hf => ?_, fun f hf => ?_, fun ps3 hl h3 => ?_⟩
  · rw [bto_I] at hf
    obtain ⟨q, p, e, _⟩ := two_at h2 hf
    exact ⟨q, p, e⟩
  · rw [bto_I] at hf
    obtain ⟨q, p, rfl, e1, e2, e3, _⟩ := two_at h2 hf
    refine ⟨wish_two e1, by show 2 ≤ 4000; omega, fun x hx => ?_⟩
    rcases List.mem_cons.mp hx with rfl | hx
    · exact hz _ e2
    · rw [List.mem_singleton.mp hx]; exact hz _ e3
  · rw [bps_I] at h3
    rw [bto_I]
    exact ⟨goneOk h2 ht2 hl h3, fin_ok h2 ht2 hz hl h3⟩
end NB
end S_NbL9

section S_NbL10
set_option Elab.async false
set_option linter.all false
namespace NB
open PySem PySem.Spec PyProof.Rows L2 PySem.W
theorem in12 {n : Nat} (h1 : 1 ≤ n) (h2 : n ≤ 2) : n ∈ [1, 2] := by
  match n, h1, h2 with
  | 1, _, _ => simp
  | 2, _, _ => simp
theorem in123 {n : Nat} (h1 : 1 ≤ n) (h2 : n ≤ 3) : n ∈ [1, 2, 3] := by
  match n, h1, h2 with
  | 1, _, _ => simp
  | 2, _, _ => simp
  | 3, _, _ => simp
theorem hK_ok (n i : Nat) (s : Kd × Nat) (h1 : 1 ≤ n) (h2 : n ≤ 2) (h3 : 1 ≤ i) (h4 : i ≤ 2) (hs : s ∈ kst n i) : KindOk (kfin s.1) ∧ ShowOk (shows (kfin s.1)) n ∧ ∀ t, 1 ≤ t → t ≤ 3 → ∀ sums ∈ splits t n, BasOk (kfin s.1) sums :=
  have hg := kst_kinds h3 h4 hs
  ⟨(kinds_ok n (in12 h1 h2) _ hg).1, (kinds_ok n (in12 h1 h2) _ hg).2, fun t t1 t2 sums hs => bas_ok (in12 h1 h2) hg (in123 t1 t2) hs⟩
end NB
end S_NbL10

section S_NbO1
set_option Elab.async false
set_option linter.all false
set_option maxRecDepth 100000
set_option maxHeartbeats 4000000
namespace NB
open PySem PySem.Spec PyProof.Rows L2 PySem.W

/-! products and sums over rows -/
def pr : List Rat → Rat
  | [] => 1
  | x :: l => x * pr l
def sm : List Rat → Rat
  | [] => 0
  | x :: l => x + sm l
theorem pr_perm {a b : List Rat} (h : a.Perm b) : pr a = pr b := by
  induction h with
  | nil => rfl
  | cons x _ ih => show x * _ = x * _; rw [ih]
  | swap x y l => show y * (x * pr l) = x * (y * pr l); grind
  | trans _ _ i1 i2 => exact i1.trans i2
theorem sm_perm {a b : List Rat} (h : a.Perm b) : sm a = sm b := by
  induction h with
  | nil => rfl
  | cons x _ ih => show x + _ = x + _; rw [ih]
  | swap x y l => show y + (x + sm l) = x + (y + sm l); grind
  | trans _ _ i1 i2 => exact i1.trans i2
theorem foldl_pr {α : Type} (g : α → Rat) : ∀ (l : List α) (c : Rat), l.foldl (fun a x => a * g x) c = c * pr (l.map g)
  | [], c => by show c = c * 1; grind
  | x :: l, c => by
    rw [List.foldl_cons, foldl_pr g l]
    show _ = c * (g x * pr (l.map g)); grind
theorem foldl_sm {α : Type} (g : α → Rat) : ∀ (l : List α) (c : Rat), l.foldl (fun a x => a + g x) c = c + sm (l.map g)
  | [], c => by show c = c + 0; grind
  | x :: l, c => by
    rw [List.foldl_cons, foldl_sm g l]
    show _ = c + (g x + sm (l.map g)); grind
theorem sm_mul {α : Type} (c : Rat) (g : α → Rat) : ∀ l : List α, sm (l.map fun x => c * g x) = c * sm (l.map g)
  | [] => by show (0 : Rat) = c * 0; grind
  | x :: l => by
    have ih := sm_mul c g l
    show c * g x + sm (l.map fun x => c * g x) = c * (g x + sm (l.map g))
    rw [ih]; grind
theorem sm_add {α : Type} (g h : α → Rat) : ∀ l : List α, sm (l.map fun x => g x + h x) = sm (l.map g) + sm (l.map h)
  | [] => by show (0 : Rat) = 0 + 0; grind
  | x :: l => by
    have ih := sm_add g h l
    show g x + h x + sm (l.map fun x => g x + h x) = g x + sm (l.map g) + (h x + sm (l.map h))
    rw [ih]; grind
theorem sm_zero {α : Type} : ∀ l : List α, sm (l.map fun _ => 0) = 0
  | [] => rfl
  | x :: l => by
    have ih := sm_zero l
    show 0 + sm (l.map fun _ => 0) = 0
    rw [ih]; grind
theorem sm_swap {α β : Type} (g : α → β → Rat) (m : List β) : ∀ l : List α, sm (l.map fun x => sm (m.map fun y => g x y)) = sm (m.map fun y => sm (l.map fun x => g x y))
  | [] => (sm_zero m).symm
  | x :: l => by
    have ih := sm_swap g m l
    show sm (m.map fun y => g x y) + sm (l.map fun x => sm (m.map fun y => g x y)) = sm (m.map fun y => g x y + sm (l.map fun x => g x y))
    rw [ih, sm_add]
theorem sm_app : ∀ a b : List Rat, sm (a ++ b) = sm a + sm b
  | [], b => by show sm b = 0 + sm b; grind
  | x :: a, b => by
    show x + sm (a ++ b) = x + sm a + sm b
    rw [sm_app a b]; grind
theorem sm_filter {α : Type} (c : α → Bool) (h : α → Rat) : ∀ l : List α, (∀ x ∈ l, c x = false → h x = 0) → sm ((l.filter c).map h) = sm (l.map h)
  | [], _ => rfl
  | x :: l, q => by
    have ih := sm_filter c h l fun y hy => q y (List.mem_cons_of_mem _ hy)
    cases e : c x with
    | true => rw [List.filter_cons_of_pos e]; show h x + _ = h x + _; rw [ih]
    | false =>
      rw [List.filter_cons_of_neg (by rw [e]; exact Bool.false_ne_true), ih]
      show _ = h x + _
      rw [q x List.mem_cons_self e]; grind
theorem pr_mul {α : Type} (g h : α → Rat) : ∀ l : List α, pr (l.map fun x => g x * h x) = pr (l.map g) * pr (l.map h)
  | [] => by show (1 : Rat) = 1 * 1; grind
  | x :: l => by
    have ih := pr_mul g h l
    show g x * h x * pr (l.map fun x => g x * h x) = g x * pr (l.map g) * (h x * pr (l.map h))
    rw [ih]; grind
theorem pr_filter {α : Type} (c : α → Bool) (h : α → Rat) : ∀ l : List α, pr ((l.filter c).map h) = pr (l.map fun x => if c x = true then h x else 1)
  | [] => rfl
  | x :: l => by
    have ih := pr_filter c h l
    cases e : c x with
    | true =>
      rw [List.filter_cons_of_pos e]
      show h x * _ = (if c x = true then h x else 1) * _
      rw [ih, if_pos e]
    | false =>
      rw [List.filter_cons_of_neg (by rw [e]; exact Bool.false_ne_true), ih]
      show _ = (if c x = true then h x else 1) * _
      rw [if_neg (by rw [e]; exact Bool.false_ne_true)]; grind
theorem pr_out {a : Nat} (u : Rat) (g : Nat → Rat) : ∀ l : List Nat, a ∉ l → pr (l.map fun j => if j = a then u else g j) = pr (l.map g)
  | [], _ => rfl
  | x :: l, h => by
    have ih := pr_out u g l fun m => h (List.mem_cons_of_mem _ m)
    show (if x = a then u else g x) * _ = g x * _
    rw [if_neg (fun e => h (by rw [e]; exact List.mem_cons_self)), ih]
theorem pr_at {a : Nat} (u : Rat) (g : Nat → Rat) : ∀ l : List Nat, l.Nodup → a ∈ l → pr (l.map fun j => if j = a then u else g j) = u * pr (l.map fun j => if j = a then 1 else g j)
  | [], _, h => by cases h
  | x :: l, n, h => by
    obtain ⟨n1, n2⟩ := List.nodup_cons.mp n
    show (if x = a then u else g x) * pr (l.map fun j => if j = a then u else g j) = u * ((if x = a then 1 else g x) * pr (l.map fun j => if j = a then 1 else g j))
    by_cases e : x = a
    · subst e
      rw [if_pos rfl, if_pos rfl, pr_out u g l n1, pr_out 1 g l n1]; grind
    · have m : a ∈ l := (List.mem_cons.mp h).resolve_left fun q => e q.symm
      rw [if_neg e, if_neg e, pr_at u g l n2 m]; grind
/-! numbers of rows -/
theorem numb_nil (r : List Rat) : numb r [] = 1 := by unfold numb; rw [List.zip_nil_right]; rfl
theorem numb_zero {m : List Nat} (h : ∀ n ∈ m, n = 0) (r : List Rat) : numb r m = 1 := by
  have : ∀ (l : List (Rat × Nat)) (c : Rat), (∀ q ∈ l, q.2 = 0) → l.foldl (fun a p => a * p.1 ^ p.2) c = c := by
    intro l
    induction l with
    | nil => intro c _; rfl
    | cons q l ih =>
      intro c hq
      rw [List.foldl_cons, hq q List.mem_cons_self, Rat.pow_zero]
      rw [ih _ fun p hp => hq p (List.mem_cons_of_mem _ hp)]; grind
  exact this _ 1 fun q hq => h _ (List.of_mem_zip hq).2
def Vw (rows : List (List Rat)) (p : Pw) : Rat := pr ((rows.zip p).map fun q => numb q.1 q.2)
def Wm (sp : Spr) (p : Pw) : Rat := pr (p.map (mn sp))
theorem mn_sm (sp : Spr) (m : List Nat) : mn sp m = sm (sp.map fun x => x.2 * numb x.1 m) := by
  unfold mn
  rw [foldl_sm]; grind
theorem met_lin (sp : Spr) : ∀ f : Fm, met f sp = lin (Wm sp) f := by
  intro f
  have : met f sp = sm (f.map fun x => x.2 * Wm sp x.1) := by
    unfold met
    rw [show (fun (t : Rat) (x : Pw × Rat) => t + x.1.foldl (fun a m => a * mn sp m) x.2) = fun t x => t + x.2 * Wm sp x.1 from by
      funext t x; rw [foldl_pr]; rfl]
    rw [foldl_sm]; grind
  rw [this]
  induction f with
  | nil => rfl
  | cons x f ih => show _ + _ = _ + lin (Wm sp) f; rw [← ih ?_]; unfold met; rw [show (fun (t : Rat) (x : Pw × Rat) => t + x.1.foldl (fun a m => a * mn sp m) x.2) = fun t x => t + x.2 * Wm sp x.1 from by
      funext t x; rw [foldl_pr]; rfl]
                   rw [foldl_sm]; grind
theorem worth_sm (f : Fm) (rows : List (List Rat)) : worth f rows = sm (f.map fun x => x.2 * Vw rows x.1) := by
  unfold worth
  rw [show (fun (t : Rat) (x : Pw × Rat) => t + (rows.zip x.1).foldl (fun a p => a * numb p.1 p.2) x.2) = fun t x => t + x.2 * Vw rows x.1 from by
    funext t x; rw [foldl_pr (fun p : List Rat × List Nat => numb p.1 p.2)]; rfl]
  rw [foldl_sm]; grind
theorem worth_one (p : Pw) (rows : List (List Rat)) : worth [(p, 1)] rows = Vw rows p := by
  rw [worth_sm]
  show 1 * Vw rows p + 0 = _
  grind
theorem vw_range {rows : List (List Rat)} {p : Pw} {N : Nat} (h1 : rows.length = N) (h2 : p.length = N) : Vw rows p = pr ((List.range N).map fun j => numb (rows.getD j []) (p.getD j [])) := by
  unfold Vw
  congr 1
  apply List.ext_getElem
  · rw [List.length_map, List.length_map, List.length_zip, List.length_range]; omega
  · intro i a b
    rw [List.length_map, List.length_range] at b
    simp [List.getElem_map, List.getElem_zip, List.getElem_range, h1, h2, b]
/-! all drawings -/
theorem drw_len1 (sp : Spr) : ∀ n, ∀ x ∈ drw sp n, x.1.length = n := by
  have key : ∀ (d acc : Drw) (n : Nat), (∀ x ∈ d, x.1.length = n) → (∀ x ∈ acc, x.1.length = n + 1) → ∀ x ∈ d.foldl (fun acc x => acc ++ sp.map fun y => (x.1 ++ [y.1], x.2 * y.2)) acc, x.1.length = n + 1 := by
    intro d
    induction d with
    | nil => intro acc n _ h; exact h
    | cons x d ih =>
      intro acc n hd ha
      refine ih _ n (fun y hy => hd y (List.mem_cons_of_mem _ hy)) fun z hz => ?_
      rcases List.mem_append.mp hz with hz | hz
      · exact ha z hz
      · obtain ⟨y, _, rfl⟩ := List.mem_map.mp hz
        rw [List.length_append, hd x List.mem_cons_self]; rfl
  intro n
  induction n with
  | zero => intro x hx; rw [List.mem_singleton.mp hx]; rfl
  | succ n ih => exact key _ [] n ih fun x hx => by cases hx
theorem drw_sm (sp : Spr) (h : List (List Rat) × Rat → Rat) (d : Drw) : sm ((dstep sp d).map h) = sm (d.map fun x => sm (sp.map fun y => h (x.1 ++ [y.1], x.2 * y.2))) := by
  have key : ∀ (d acc : Drw), sm ((d.foldl (fun acc x => acc ++ sp.map fun y => (x.1 ++ [y.1], x.2 * y.2)) acc).map h) = sm (acc.map h) + sm (d.map fun x => sm (sp.map fun y => h (x.1 ++ [y.1], x.2 * y.2))) := by
    intro d
    induction d with
    | nil => intro acc; show sm (acc.map h) = sm (acc.map h) + 0; grind
    | cons x d ih =>
      intro acc
      rw [List.foldl_cons, ih, List.map_append, sm_app, List.map_map]
      show sm (acc.map h) + sm (sp.map fun y => h (x.1 ++ [y.1], x.2 * y.2)) + _ = sm (acc.map h) + (sm (sp.map fun y => h (x.1 ++ [y.1], x.2 * y.2)) + _)
      grind
  unfold dstep
  rw [key d []]
  show 0 + _ = _
  grind
theorem mix_snoc {rows : List (List Rat)} {lot : List Nat} {d : List (List Rat)} {a : Nat} {y : List Rat} (h : lot.length = d.length) : mix rows (lot ++ [a]) (d ++ [y]) = (mix rows lot d).set a y := by
  unfold mix
  rw [List.zip_append h, List.foldl_append]; rfl
theorem mix_len0 (lot : List Nat) (d : List (List Rat)) (rows : List (List Rat)) : (mix rows lot d).length = rows.length := by
  unfold mix
  generalize lot.zip d = l
  induction l generalizing rows with
  | nil => rfl
  | cons q l ih => rw [List.foldl_cons, ih, List.length_set]
theorem getD_set (m : List (List Rat)) {a : Nat} (h : a < m.length) (y : List Rat) (j : Nat) : (m.set a y).getD j [] = if j = a then y else m.getD j [] := by
  rw [List.getD_eq_getElem?_getD, List.getElem?_set, List.getD_eq_getElem?_getD]
  by_cases e : a = j
  · subst e; rw [if_pos rfl, if_pos h, if_pos rfl]; rfl
  · rw [if_neg e, if_neg fun q => e q.symm]
theorem mean_prod {sp : Spr} (hone : sm (sp.map (·.2)) = 1) {rows : List (List Rat)} {N : Nat} (hN : rows.length = N) : ∀ (n : Nat) (lot : List Nat), lot.length = n → (∀ a ∈ lot, a < N) → ∀ p : Nat → List Nat,
    sm ((drw sp n).map fun d => d.2 * pr ((List.range N).map fun j => numb ((mix rows lot d.1).getD j []) (p j))) = pr ((List.range N).map fun j => if j ∈ lot then mn sp (p j) else numb (rows.getD j []) (p j))
  | 0, lot, hl, _, p => by
    have : lot = [] := List.length_eq_zero_iff.mp hl
    subst this
    show 1 * _ + 0 = _
    have e : (List.range N).map (fun j => if j ∈ ([] : List Nat) then mn sp (p j) else numb (rows.getD j []) (p j)) = (List.range N).map fun j => numb (rows.getD j []) (p j) := List.map_congr_left fun j _ => if_neg (by simp)
    rw [e]
    have : ∀ x : Rat, 1 * x + 0 = x := by intro x; grind
    exact this _
  | n + 1, lot, hl, hlt, p => by
    rcases List.eq_nil_or_concat lot with e | ⟨l, a, e⟩
    · subst e; cases hl
    · have e : lot = l ++ [a] := by simpa using e
      subst e
      have hl' : l.length = n := by simpa using hl
      have ha : a < N := hlt a (by simp)
      have ih := mean_prod hone hN n l hl' (fun b hb => hlt b (List.mem_append_left _ hb)) (fun j => if j = a then [] else p j)
      have mr : a ∈ List.range N := List.mem_range.mpr ha
      show sm ((dstep sp (drw sp n)).map _) = _
      rw [drw_sm]
      have e1 : (drw sp n).map (fun x => sm (sp.map fun y => (x.2 * y.2) * pr ((List.range N).map fun j => numb ((mix rows (l ++ [a]) (x.1 ++ [y.1])).getD j []) (p j)))) =
          (drw sp n).map fun x => mn sp (p a) * (x.2 * pr ((List.range N).map fun j => numb ((mix rows l x.1).getD j []) ((fun j => if j = a then [] else p j) j))) := by
        refine List.map_congr_left fun x hx => ?_
        have hx1 := drw_len1 sp n x hx
        have e2 : (List.range N).map (fun j => numb ((mix rows l x.1).getD j []) ((fun j => if j = a then [] else p j) j)) = (List.range N).map fun j => if j = a then 1 else numb ((mix rows l x.1).getD j []) (p j) := List.map_congr_left fun j _ => by
          by_cases q : j = a
          · rw [if_pos q]; show numb _ (if j = a then [] else p j) = 1; rw [if_pos q, numb_nil]
          · rw [if_neg q]; show numb _ (if j = a then [] else p j) = _; rw [if_neg q]
        rw [e2]
        have e3 : ∀ y : List Rat, (List.range N).map (fun j => numb ((mix rows (l ++ [a]) (x.1 ++ [y])).getD j []) (p j)) = (List.range N).map fun j => if j = a then numb y (p a) else numb ((mix rows l x.1).getD j []) (p j) := fun y => List.map_congr_left fun j _ => by
          rw [mix_snoc (by rw [hl', hx1]), getD_set _ (by rw [mix_len0, hN]; exact ha)]
          by_cases q : j = a
          · rw [if_pos q, if_pos q, q]
          · rw [if_neg q, if_neg q]
        have e4 : sp.map (fun y => (x.2 * y.2) * pr ((List.range N).map fun j => numb ((mix rows (l ++ [a]) (x.1 ++ [y.1])).getD j []) (p j))) = sp.map fun y => (x.2 * pr ((List.range N).map fun j => if j = a then 1 else numb ((mix rows l x.1).getD j []) (p j))) * (y.2 * numb y.1 (p a)) := List.map_congr_left fun y _ => by
          rw [e3, pr_at _ _ _ List.nodup_range mr]; grind
        rw [e4, sm_mul, ← mn_sm]; grind
      rw [e1, sm_mul, ih]
      have e5 : (List.range N).map (fun j => if j ∈ l then mn sp ((fun j => if j = a then [] else p j) j) else numb (rows.getD j []) ((fun j => if j = a then [] else p j) j)) = (List.range N).map fun j => if j = a then 1 else (if j ∈ l then mn sp (p j) else numb (rows.getD j []) (p j)) := List.map_congr_left fun j _ => by
        by_cases q : j = a
        · rw [if_pos q]
          show (if j ∈ l then mn sp (if j = a then [] else p j) else numb _ (if j = a then [] else p j)) = 1
          rw [if_pos q, numb_nil]
          by_cases m : j ∈ l
          · rw [if_pos m, mn_sm, ← hone]
            congr 1
            exact List.map_congr_left fun y _ => by rw [numb_nil]; grind
          · rw [if_neg m]
        · rw [if_neg q]
          show (if j ∈ l then mn sp (if j = a then [] else p j) else numb _ (if j = a then [] else p j)) = _
          rw [if_neg q]
      rw [e5, ← pr_at (a := a) (mn sp (p a)) (fun j => if j ∈ l then mn sp (p j) else numb (rows.getD j []) (p j)) _ List.nodup_range mr]
      congr 1
      refine List.map_congr_left fun j _ => ?_
      by_cases q : j = a
      · rw [if_pos q, if_pos (by rw [q]; simp), q]
      · rw [if_neg q]
        by_cases m : j ∈ l
        · rw [if_pos m, if_pos (List.mem_append_left _ m)]
        · rw [if_neg m, if_neg (by simp [m, q])]
end NB
end S_NbO1

section S_NbO2
set_option Elab.async false
set_option linter.all false
set_option maxRecDepth 100000
set_option maxHeartbeats 4000000
namespace NB
open PySem PySem.Spec PyProof.Rows L2 PySem.W

/-! ### the mean over a lot, told by products -/
/-- the sum over groups -/
def Qg (A : Pw → Rat) (w : Pw → Rat) (l : List (Pw × Fm)) : Rat := sm (l.map fun x => lin w x.2 * A x.1)
theorem Qg_put (A w : Pw → Rat) (k : Pw) (v : Fm) : ∀ l : List (Pw × Fm), Qg A w (put l k v) = Qg A w l + (lin w v - lin w ((lk l k).getD [])) * A k
  | [] => by
    show lin w v * A k + 0 = 0 + (lin w v - 0) * A k
    grind
  | (a, u) :: l => by
    have ih := Qg_put A w k v l
    unfold Qg at ih ⊢
    by_cases e : a = k
    · rw [put_eq e, lk_eq e]
      show lin w v * A a + sm (l.map fun x => lin w x.2 * A x.1) = lin w u * A a + sm (l.map fun x => lin w x.2 * A x.1) + (lin w v - lin w u) * A k
      rw [e]; grind
    · rw [put_ne e, lk_ne e]
      show lin w u * A a + sm ((put l k v).map fun x => lin w x.2 * A x.1) = lin w u * A a + sm (l.map fun x => lin w x.2 * A x.1) + _
      rw [ih]; grind
theorem Qg_grp (A w : Pw → Rat) (l : List (Pw × Fm)) (k : Pw) (v : Pw × Rat) : Qg A w (grp l k v) = Qg A w l + v.2 * w v.1 * A k := by
  unfold grp
  rw [Qg_put, lin_append]
  show _ + (lin w ((lk l k).getD []) + (v.2 * w v.1 + 0) - lin w ((lk l k).getD [])) * A k = _
  grind
theorem Qg_gmo (A w : Pw → Rat) (lot : List Nat) (f : Fm) : Qg A w (gmo lot f) = sm (f.map fun x => x.2 * w (facs (inLot lot x.1)) * A (leftOf lot x.1)) := by
  have key : ∀ (f : Fm) (l : List (Pw × Fm)), Qg A w (f.foldl (fun l x => grp l (leftOf lot x.1) (facs (inLot lot x.1), x.2)) l) = Qg A w l + sm (f.map fun x => x.2 * w (facs (inLot lot x.1)) * A (leftOf lot x.1)) := by
    intro f
    induction f with
    | nil => intro l; show Qg A w l = Qg A w l + 0; grind
    | cons x f ih =>
      intro l
      rw [List.foldl_cons, ih, Qg_grp]
      show _ = Qg A w l + (x.2 * w (facs (inLot lot x.1)) * A (leftOf lot x.1) + sm (f.map fun x => x.2 * w (facs (inLot lot x.1)) * A (leftOf lot x.1)))
      grind
  unfold gmo
  rw [key f []]
  show 0 + _ = _
  grind
theorem gmo_nodup (lot : List Nat) (f : Fm) : ((gmo lot f).map (·.1)).Nodup := by
  have : ∀ (f : Fm) (l : List (Pw × Fm)), (l.map (·.1)).Nodup → ((f.foldl (fun l x => grp l (leftOf lot x.1) (facs (inLot lot x.1), x.2)) l).map (·.1)).Nodup := by
    intro f
    induction f with
    | nil => intro l h; exact h
    | cons p ps ih => intro l h; exact ih _ (nodup_put h _ _)
  exact this f [] List.nodup_nil
theorem keys_lk {β : Type} (h : Pw → Fm → β) : ∀ l : List (Pw × Fm), (l.map (·.1)).Nodup → (l.map (·.1)).map (fun k => h k ((lk l k).getD [])) = l.map fun x => h x.1 x.2
  | [], _ => rfl
  | (a, u) :: l, n => by
    rw [List.map_cons, List.nodup_cons] at n
    have ih := keys_lk h l n.2
    rw [List.map_cons, List.map_cons, List.map_cons]
    congr 1
    · show h a ((lk ((a, u) :: l) a).getD []) = _
      rw [lk_eq rfl]; rfl
    · refine Eq.trans (List.map_congr_left fun k hk => ?_) ih
      have ne : a ≠ k := fun q => n.1 (by rw [q]; exact hk)
      show h k ((lk ((a, u) :: l) k).getD []) = _
      rw [lk_ne ne]
theorem lin_map (w : Pw → Rat) (g : Pw → Pw) (h : ∀ p, w (g p) = w p) : ∀ f : Fm, lin w (f.map fun p => (g p.1, p.2)) = lin w f
  | [] => rfl
  | x :: f => by
    show x.2 * w (g x.1) + lin w (f.map fun p => (g p.1, p.2)) = x.2 * w x.1 + lin w f
    rw [h, lin_map w g h f]
theorem wm_srt (sp : Spr) (p : Pw) : Wm sp (srt encM p) = Wm sp p := by
  unfold Wm
  exact pr_perm ((srt_perm encM p).map _)
theorem met_mwish (sp : Spr) (g : Fm) : met (mwish g) sp = lin (Wm sp) g := by
  unfold mwish
  rw [met_lin, lin_gath, lin_map _ _ (wm_srt sp)]
theorem mn_one {sp : Spr} (hone : sm (sp.map (·.2)) = 1) {m : List Nat} (h : nz m = false) : mn sp m = 1 := by
  have h0 : ∀ n ∈ m, n = 0 := fun n hn => by
    unfold nz at h
    rw [List.any_eq_false] at h
    have := h n hn
    simpa using this
  rw [mn_sm, ← hone]
  congr 1
  exact List.map_congr_left fun y _ => by rw [numb_zero h0]; grind
theorem wm_facs {sp : Spr} (hone : sm (sp.map (·.2)) = 1) (p : Pw) : Wm sp (facs p) = Wm sp p := by
  unfold facs
  rw [wm_srt]
  unfold Wm
  rw [pr_filter]
  congr 1
  refine List.map_congr_left fun m _ => ?_
  cases e : nz m with
  | true => exact if_pos rfl
  | false => rw [if_neg Bool.false_ne_true, mn_one hone e]
theorem zipIdx_range (p : Pw) : p.zipIdx = (List.range p.length).map fun j => (p.getD j [], j) := by
  apply List.ext_getElem
  · simp
  · intro i a b
    rw [List.length_zipIdx] at a
    simp [a]
theorem wm_inLot (sp : Spr) (lot : List Nat) {p : Pw} {N : Nat} (h : p.length = N) : Wm sp (inLot lot p) = pr ((List.range N).map fun j => if j ∈ lot then mn sp (p.getD j []) else 1) := by
  unfold Wm inLot
  rw [zipIdx_range, h, List.map_map, pr_filter, List.map_map]
  congr 1
  refine List.map_congr_left fun j _ => ?_
  show (if decide (j ∈ lot) = true then mn sp (p.getD j []) else 1) = _
  by_cases q : j ∈ lot
  · rw [if_pos q, if_pos (decide_eq_true q)]
  · rw [if_neg q, if_neg (by rw [decide_eq_true_eq]; exact q)]
theorem leftOf_len (lot : List Nat) (p : Pw) : (leftOf lot p).length = p.length := by
  unfold leftOf
  rw [List.length_map, List.length_zipIdx]
theorem leftOf_at (lot : List Nat) {p : Pw} {j : Nat} (h : j < p.length) : (leftOf lot p).getD j [] = if j ∈ lot then List.replicate (p.getD j []).length 0 else p.getD j [] := by
  unfold leftOf
  rw [List.getD_eq_getElem?_getD, List.getElem?_map, List.getElem?_zipIdx]
  simp [h]
theorem vw_left (lot : List Nat) {rows : List (List Rat)} {p : Pw} {N : Nat} (h1 : rows.length = N) (h2 : p.length = N) : Vw rows (leftOf lot p) = pr ((List.range N).map fun j => if j ∈ lot then 1 else numb (rows.getD j []) (p.getD j [])) := by
  rw [vw_range h1 (by rw [leftOf_len, h2])]
  congr 1
  refine List.map_congr_left fun j hj => ?_
  rw [leftOf_at lot (by rw [h2]; exact List.mem_range.mp hj)]
  by_cases q : j ∈ lot
  · rw [if_pos q, if_pos q]
    exact numb_zero (fun n hn => (List.mem_replicate.mp hn).2) _
  · rw [if_neg q, if_neg q]
theorem met_nil (sp : Spr) : met [] sp = 0 := rfl
/-- THE LAW of the mean over a lot -/
theorem otot_goal {sp : Spr} (hone : sm (sp.map (·.2)) = 1) {rows : List (List Rat)} {N : Nat} (hN : rows.length = N) {f : Fm} (hf : ∀ x ∈ f, x.1.length = N) {lot : List Nat} (hlt : ∀ a ∈ lot, a < N) :
    otot sp rows (mo f lot) = ogoal f lot rows (drw sp lot.length) := by
  have e1 : otot sp rows (mo f lot) = Qg (Vw rows) (Wm sp) (gmo lot f) := by
    unfold otot
    rw [foldl_sm]
    unfold mo
    rw [sm_filter _ _ _ (fun x hx hc => by
      have : x.2 = [] := by simpa using hc
      rw [this, met_nil]; grind), List.map_map]
    rw [sm_perm ((srt_perm encP _).map _)]
    have := keys_lk (fun k g => met (mwish g) sp * worth [(k, 1)] rows) (gmo lot f) (gmo_nodup lot f)
    show 0 + sm (((gmo lot f).map (·.1)).map fun k => met (mwish ((lk (gmo lot f) k).getD [])) sp * worth [(k, 1)] rows) = _
    rw [this]
    unfold Qg
    rw [show ((gmo lot f).map fun x => met (mwish x.2) sp * worth [(x.1, 1)] rows) = (gmo lot f).map fun x => lin (Wm sp) x.2 * Vw rows x.1 from List.map_congr_left fun x _ => by rw [met_mwish, worth_one]]
    grind
  have e2 : ogoal f lot rows (drw sp lot.length) = sm (f.map fun x => x.2 * sm ((drw sp lot.length).map fun d => d.2 * Vw (mix rows lot d.1) x.1)) := by
    unfold ogoal
    rw [foldl_sm]
    rw [show ((drw sp lot.length).map fun x => x.2 * worth f (mix rows lot x.1)) = (drw sp lot.length).map fun d => sm (f.map fun x => d.2 * (x.2 * Vw (mix rows lot d.1) x.1)) from List.map_congr_left fun d _ => by rw [worth_sm, sm_mul]]
    rw [sm_swap]
    rw [show (f.map fun y => sm ((drw sp lot.length).map fun x => x.2 * (y.2 * Vw (mix rows lot x.1) y.1))) = f.map fun x => x.2 * sm ((drw sp lot.length).map fun d => d.2 * Vw (mix rows lot d.1) x.1) from List.map_congr_left fun y _ => by
      rw [← sm_mul]
      congr 1
      exact List.map_congr_left fun d _ => by grind]
    grind
  rw [e1, e2, Qg_gmo]
  congr 1
  refine List.map_congr_left fun x hx => ?_
  have hx := hf x hx
  have e3 := mean_prod hone hN lot.length lot rfl hlt fun j => x.1.getD j []
  rw [show ((drw sp lot.length).map fun d => d.2 * Vw (mix rows lot d.1) x.1) = (drw sp lot.length).map fun d => d.2 * pr ((List.range N).map fun j => numb ((mix rows lot d.1).getD j []) (x.1.getD j [])) from List.map_congr_left fun d _ => by rw [vw_range (by rw [mix_len0, hN]) hx]]
  rw [e3, wm_facs hone, wm_inLot sp lot hx, vw_left lot hN hx]
  have e4 := pr_mul (fun j => if j ∈ lot then mn sp (x.1.getD j []) else 1) (fun j => if j ∈ lot then 1 else numb (rows.getD j []) (x.1.getD j [])) (List.range N)
  rw [show (x.2 * pr ((List.range N).map fun j => if j ∈ lot then mn sp (x.1.getD j []) else 1) * pr ((List.range N).map fun j => if j ∈ lot then 1 else numb (rows.getD j []) (x.1.getD j []))) = x.2 * (pr ((List.range N).map fun j => if j ∈ lot then mn sp (x.1.getD j []) else 1) * pr ((List.range N).map fun j => if j ∈ lot then 1 else numb (rows.getD j []) (x.1.getD j []))) from by grind]
  rw [← e4]
  congr 2
  refine List.map_congr_left fun j _ => ?_
  by_cases q : j ∈ lot
  · rw [if_pos q, if_pos q, if_pos q]; grind
  · rw [if_neg q, if_neg q, if_neg q]; grind
end NB
end S_NbO2

section S_NbO3
set_option Elab.async false
set_option linter.all false
set_option maxRecDepth 100000
set_option maxHeartbeats 4000000
namespace NB
open PySem PySem.Spec PyProof.Rows L2 PySem.W

/-! ### the facts of a drawn form over a drawn source -/
theorem sm_sum : ∀ l : List Rat, sm l = l.sum
  | [] => rfl
  | x :: l => by rw [List.sum_cons, ← sm_sum l]; rfl
theorem fives_bd : ∀ q ∈ fives, Bd 1 q := fun q hq => by
  unfold fives at hq
  simp only [List.mem_cons, List.not_mem_nil, or_false] at hq
  rcases hq with h | h | h | h | h <;> rw [h] <;> exact ⟨by decide, by decide⟩
theorem srt_sorted {ks : List Pw} (h : ks.Pairwise fun a b => dataLe false encP a b = true) : srt encP ks = ks :=
  List.Perm.eq_of_pairwise (le := fun a b => dataLe false encP a b = true) (fun a b _ _ h1 h2 => le_anti ud_P h1 h2) (sort_pairwise (sortLe_total _ _ _) _) h (srt_perm encP ks)
theorem mo_keys (f : Fm) (lot : List Nat) : (mo f lot).map (·.1) = (srt encP ((gmo lot f).map (·.1))).filter fun k => decide (mwish ((lk (gmo lot f) k).getD []) ≠ []) := by
  unfold mo
  rw [List.filter_map, List.map_map]
  show List.map (fun k => k) _ = _
  rw [List.map_id']
  rfl
theorem mo_mem {f : Fm} {lot : List Nat} {x : Pw × Fm} (h : x ∈ mo f lot) : ∃ g, (x.1, g) ∈ gmo lot f ∧ x.2 = mwish g ∧ x.2 ≠ [] := by
  unfold mo at h
  obtain ⟨h1, h2⟩ := List.mem_filter.mp h
  obtain ⟨k, hk, rfl⟩ := List.mem_map.mp h1
  have hk := (srt_perm encP _).mem_iff.mp hk
  obtain ⟨v, hv⟩ := Option.isSome_iff_exists.mp (lk_mem.mpr hk)
  refine ⟨v, lk_some_mem hv, ?_, of_decide_eq_true h2⟩
  show mwish ((lk (gmo lot f) k).getD []) = _
  rw [hv]; rfl
theorem gmo_key {lot : List Nat} {f : Fm} : ∀ x ∈ gmo lot f, ∃ z ∈ f, x.1 = leftOf lot z.1 := by
  have : ∀ (g : Fm) (l : List (Pw × Fm)), (∀ z ∈ g, z ∈ f) → (∀ x ∈ l, ∃ z ∈ f, x.1 = leftOf lot z.1) → ∀ x ∈ g.foldl (fun l x => grp l (leftOf lot x.1) (facs (inLot lot x.1), x.2)) l, ∃ z ∈ f, x.1 = leftOf lot z.1 := by
    intro g
    induction g with
    | nil => intro l _ h; exact h
    | cons z g ih =>
      intro l hg h
      refine ih _ (fun w hw => hg w (List.mem_cons_of_mem _ hw)) fun x hx => ?_
      have hm : x.1 ∈ (grp l (leftOf lot z.1) (facs (inLot lot z.1), z.2)).map (·.1) := List.mem_map.mpr ⟨x, hx, rfl⟩
      unfold grp at hm
      rw [keys_put] at hm
      have old : x.1 ∈ l.map (·.1) → ∃ z ∈ f, x.1 = leftOf lot z.1 := fun q => by
        obtain ⟨y, hy, e⟩ := List.mem_map.mp q
        obtain ⟨u, hu, e2⟩ := h y hy
        exact ⟨u, hu, by rw [← e]; exact e2⟩
      split at hm
      · exact old hm
      · rcases List.mem_append.mp hm with q | q
        · exact old q
        · exact ⟨z, hg z List.mem_cons_self, List.mem_singleton.mp q⟩
  exact this f [] (fun z hz => hz) fun x hx => by cases hx
theorem sum_zero (n : Nat) : (List.replicate n 0).sum = 0 := by
  induction n with
  | zero => rfl
  | succ n ih => rw [List.replicate_succ, List.sum_cons, ih]
theorem left_psum (lot : List Nat) (p : Pw) : psum (leftOf lot p) ≤ psum p := by
  have : ∀ (p : Pw) (i : Nat), (((p.zipIdx i).map fun q => if q.2 ∈ lot then List.replicate q.1.length 0 else q.1).map List.sum).sum ≤ (p.map List.sum).sum := by
    intro p
    induction p with
    | nil => intro i; simp
    | cons m p ih =>
      intro i
      have h := ih (i + 1)
      rw [List.zipIdx_cons, List.map_cons, List.map_cons, List.sum_cons, List.map_cons, List.sum_cons]
      show (if i ∈ lot then List.replicate m.length 0 else m).sum + _ ≤ _
      by_cases q : i ∈ lot
      · rw [if_pos q, sum_zero]; omega
      · rw [if_neg q]; omega
  exact this p 0
theorem mix_mem {rows : List (List Rat)} {lot : List Nat} {d : List (List Rat)} {r : List Rat} (h : r ∈ mix rows lot d) : r ∈ rows ∨ r ∈ d := by
  have : ∀ (l : List (Nat × List Rat)) (m : List (List Rat)), (∀ q ∈ l, q.2 ∈ d) → (∀ r ∈ m, r ∈ rows ∨ r ∈ d) → ∀ r ∈ l.foldl (fun m q => m.set q.1 q.2) m, r ∈ rows ∨ r ∈ d := by
    intro l
    induction l with
    | nil => intro m _ h; exact h
    | cons q l ih =>
      intro m hq hm
      refine ih _ (fun p hp => hq p (List.mem_cons_of_mem _ hp)) fun r hr => ?_
      rcases List.mem_or_eq_of_mem_set hr with hr | hr
      · exact hm r hr
      · exact .inr (by rw [hr]; exact hq q List.mem_cons_self)
  exact this (lot.zip d) rows (fun q hq => (List.of_mem_zip hq).2) (fun r hr => .inl hr) r h
theorem drw_rows {sp : Spr} : ∀ n, ∀ x ∈ drw sp n, ∀ r ∈ x.1, ∃ y ∈ sp, r = y.1
  | 0, x, h, r, hr => by
    rw [List.mem_singleton.mp h] at hr; cases hr
  | n + 1, x, h, r, hr => by
    obtain ⟨y, hy, z, hz, rfl⟩ := drw_mem h
    rcases List.mem_append.mp hr with hr | hr
    · exact drw_rows n y hy r hr
    · exact ⟨z, hz, List.mem_singleton.mp hr⟩
theorem worth_bd {e b T : Nat} {f : Fm} {rows : List (List Rat)} (h1 : ∀ r ∈ rows, ∀ x ∈ r, Bd e x) (h2 : BdF b f) (h3 : ∀ x ∈ f, psum x.1 ≤ T) : Bd ((b + e * T + 1) * f.length) (worth f rows) := by
  have := sum_bd (B := b + e * T) (h := fun x : Pw × Rat => (rows.zip x.1).foldl (fun a p => a * numb p.1 p.2) x.2) (l := f) (fun x hx => by
    refine (fold_bd2 (rows.zip x.1) x.2 b (fun p hp => h1 p.1 (List.of_mem_zip hp).1) (h2 x hx)).mono ?_
    have := Nat.mul_le_mul_left e (Nat.le_trans (zip_psum rows x.1) (h3 x hx))
    omega) f.length
  rw [List.take_length] at this
  exact this
theorem met_bd {e b c T M : Nat} {f : Fm} {sp : Spr} (h1 : ∀ x ∈ sp, Bd c x.2 ∧ ∀ y ∈ x.1, Bd e y) (h2 : BdF b f) (h3 : ∀ x ∈ f, ∀ m ∈ x.1, m.sum ≤ T) (hM : (c + e * T + 1) * sp.length ≤ M) (h4 : ∀ x ∈ f, x.1.length ≤ 3) : Bd ((b + M * 3 + 1) * f.length) (met f sp) := by
  have := sum_bd (B := b + M * 3) (h := fun x : Pw × Rat => x.1.foldl (fun a m => a * mn sp m) x.2) (l := f) (fun x hx => by
    refine (fold_bd3 (M := M) (h := mn sp) x.1 x.2 b (fun m hm => ?_) (h2 x hx)).mono ?_
    · have := mn_bd h1 (h3 x hx m hm) hM sp.length
      rw [List.take_length] at this
      exact this
    · have := Nat.mul_le_mul_left M (h4 x hx)
      omega) f.length
  rw [List.take_length] at this
  exact this
theorem ov_ok {n N : Nat} {f : Fm} {sp : Spr} {lot : List Nat} {rows : List (List Rat)} (n0 : 1 ≤ n) (n1 : n ≤ 2) (N0 : 1 ≤ N) (N1 : N ≤ 3) (fok : FormOk N n f) (sok : SpOk n sp) (hr : rows.length = N) (hrs : ∀ r ∈ rows, ∃ x ∈ sp, r = x.1) (hl : lot.length ≤ 3) (hlt : ∀ a ∈ lot, a < N) : OvOk f lot sp rows := by
  obtain ⟨ps, p3, pok, rfl⟩ := fok
  have hb2 : BdF 2 ps := fun x hx => ratios_bd _ (pok x hx).2
  have b9 : BdF 9 (gath ps) := by have := gath_bd' hb2; rw [p3] at this; exact this
  have l3 : (gath ps).length ≤ 3 := by have := gath_len' ps; omega
  have key : ∀ x ∈ gath ps, PwOk N n 3 x.1 := fun x hx => by
    obtain ⟨y, hy, e⟩ := gath_key hx
    rw [← e]; exact (pok y hy).1
  have kN : ∀ x ∈ gath ps, x.1.length = N := fun x hx => (key x hx).1
  have kT : ∀ x ∈ gath ps, psum x.1 ≤ 3 := fun x hx => (key x hx).2.2
  have kz : ∀ x ∈ gath ps, SzP x.1 := fun x hx => ⟨by have := kN x hx; omega, fun m hm => by have := (key x hx).2.1 m hm; omega⟩
  have spb : ∀ x ∈ sp, Bd 4 x.2 ∧ ∀ y ∈ x.1, Bd 1 y := fun x hx => ⟨sok.bd x hx, fun y hy => fives_bd y ((sok.row x hx).2 y hy)⟩
  have rb : ∀ r ∈ rows, ∀ x ∈ r, Bd 1 x := fun r hr x hx => by
    obtain ⟨y, hy, rfl⟩ := hrs r hr
    exact (spb y hy).2 x hx
  have hone : sm (sp.map (·.2)) = 1 := by rw [sm_sum]; exact sok.one
  have s3 := sok.len
  have gk : (gmo lot (gath ps)).length ≤ 3 := Nat.le_trans gmo_keys l3
  have ml : (mo (gath ps) lot).length ≤ 3 := by
    have := congrArg List.length (mo_keys (gath ps) lot)
    rw [List.length_map] at this
    rw [this]
    refine Nat.le_trans (List.length_filter_le _ _) ?_
    rw [(srt_perm encP _).length_eq, List.length_map]; exact gk
  -- a told wish
  have wi : ∀ x ∈ mo (gath ps) lot, BdF 30 x.2 ∧ x.2.length ≤ 3 ∧ (∀ y ∈ x.2, ∀ m ∈ y.1, m.sum ≤ 3) ∧ ∀ y ∈ x.2, y.1.length ≤ 3 := fun x hx => by
    obtain ⟨g, hg, e, _⟩ := mo_mem hx
    have gl : g.length ≤ 3 := Nat.le_trans (gmo_len _ hg) l3
    have gm := gmo_mem _ hg
    have gb : BdF 9 (g.map fun p => (srt encM p.1, p.2)) := fun y hy => by
      obtain ⟨z, hz, rfl⟩ := List.mem_map.mp hy
      obtain ⟨u, hu, rfl⟩ := gm z hz
      exact b9 u hu
    have sub : ∀ y ∈ x.2, ∃ u ∈ gath ps, y.1.length ≤ N ∧ ∀ m ∈ y.1, m ∈ u.1 := fun y hy => by
      rw [e] at hy
      unfold mwish at hy
      obtain ⟨z, hz, e2⟩ := gath_key hy
      obtain ⟨v, hv, rfl⟩ := List.mem_map.mp hz
      obtain ⟨u, hu, rfl⟩ := gm v hv
      have il : (inLot lot u.1).length ≤ u.1.length := by
        unfold inLot
        rw [List.length_map]
        refine Nat.le_trans (List.length_filter_le _ _) ?_
        rw [List.length_zipIdx]; exact Nat.le_refl _
      refine ⟨u, hu, ?_, fun m hm => ?_⟩
      · rw [← e2]
        show (srt encM (facs (inLot lot u.1))).length ≤ N
        rw [(srt_perm encM _).length_eq]
        have := len_facs (inLot lot u.1)
        have := kN u hu
        omega
      · rw [← e2] at hm
        have hm := (srt_perm encM _).mem_iff.mp hm
        unfold facs at hm
        have hm := (List.mem_filter.mp ((srt_perm encM _).mem_iff.mp hm)).1
        unfold inLot at hm
        obtain ⟨q, hq, rfl⟩ := List.mem_map.mp hm
        have := List.mem_zipIdx' (List.mem_filter.mp hq).1
        rw [this.2]
        exact List.getElem_mem _
    refine ⟨?_, ?_, fun y hy m hm => ?_, fun y hy => ?_⟩
    · rw [e]
      unfold mwish
      have := gath_bd' gb
      rw [List.length_map] at this
      exact fun y hy => (this y hy).mono (by omega)
    · rw [e]
      unfold mwish
      have := gath_len' (g.map fun p => (srt encM p.1, p.2))
      rw [List.length_map] at this
      omega
    · obtain ⟨u, hu, _, h2⟩ := sub y hy
      exact Nat.le_trans (sum_le_psum (h2 m hm)) (kT u hu)
    · obtain ⟨u, hu, h1, _⟩ := sub y hy
      omega
  have kp : ∀ x ∈ mo (gath ps) lot, psum x.1 ≤ 3 := fun x hx => by
    obtain ⟨g, hg, _, _⟩ := mo_mem hx
    obtain ⟨z, hz, e⟩ := gmo_key _ hg
    have e : x.1 = leftOf lot z.1 := e
    rw [e]
    exact Nat.le_trans (left_psum lot z.1) (kT z hz)
  have mb : ∀ x ∈ mo (gath ps) lot, Bd 390 (met x.2 sp) := fun x hx => by
    obtain ⟨h1, h2, h3, h4⟩ := wi x hx
    exact (met_bd (e := 1) (b := 30) (c := 4) (T := 3) (M := 24) spb h1 h3 (by omega) h4).mono (by omega)
  have one1 : ∀ x : Pw × Fm, BdF 1 [(x.1, (1 : Rat))] := fun x y hy => by rw [List.mem_singleton.mp hy]; exact bd_p1
  have wb : ∀ x ∈ mo (gath ps) lot, Bd 10 (worth [(x.1, 1)] rows) := fun x hx =>
    (worth_bd (e := 1) (b := 1) (T := 3) rb (one1 x) fun y hy => by rw [List.mem_singleton.mp hy]; exact kp x hx).mono (Nat.le_of_ble_eq_true rfl)
  have mr : ∀ x ∈ drw sp lot.length, ∀ r ∈ mix rows lot x.1, ∀ y ∈ r, Bd 1 y := fun x hx r hr y hy => by
    rcases mix_mem hr with q | q
    · exact rb r q y hy
    · obtain ⟨z, hz, rfl⟩ := drw_rows _ x hx r q
      exact (spb z hz).2 y hy
  have db : ∀ x ∈ drw sp lot.length, Bd 12 x.2 := fun x hx => ((drw_bd (fun x hx => (spb x hx).1) _ x hx).1).mono (by omega)
  have gb : ∀ x ∈ drw sp lot.length, Bd 39 (worth (gath ps) (mix rows lot x.1)) := fun x hx => (worth_bd (e := 1) (b := 9) (T := 3) (mr x hx) b9 kT).mono (by omega)
  have dl : (drw sp lot.length).length ≤ 27 := by
    rw [drw_len]
    exact Nat.le_trans (Nat.pow_le_pow_left s3 _) (Nat.le_trans (Nat.pow_le_pow_right (by decide) hl) (by decide))
  refine ⟨⟨9, gath ps, lot, b9, by omega, by omega, by decide, ⟨by omega, kz⟩, fun x hx m hm => ?_, by omega, rfl, rfl⟩, by omega, ?_, ?_, ?_, fun x hx => ?_, fun x hx k => ?_, fun x hx => ?_, fun i => ?_, ?_, hl, fun a ha => by rw [hr]; exact hlt a ha, by omega, fun x hx => ?_, fun x hx => ?_, fun i => ?_, ?_⟩
  · have := (key x hx).2.1 m hm
    omega
  · refine srt_sorted ?_
    rw [mo_keys]
    exact List.Pairwise.filter _ (sort_pairwise (sortLe_total _ _ _) _)
  · rw [mo_keys]
    exact List.Pairwise.filter _ ((srt_perm encP _).nodup_iff.mpr (gmo_nodup lot _))
  · intro x hx
    obtain ⟨g, hg, _, ne⟩ := mo_mem hx
    obtain ⟨z, hz, e⟩ := gmo_key _ hg
    refine ⟨ne, fun a ha => ?_⟩
    have e : x.1 = leftOf lot z.1 := e
    have az : a < z.1.length := by rw [kN z hz]; exact hlt a ha
    have hg := leftOf_at lot az
    rw [if_pos ha, List.getD_eq_getElem?_getD] at hg
    have al : a < (leftOf lot z.1).length := by rw [leftOf_len]; exact az
    rw [e]
    refine ⟨_, List.getElem?_eq_getElem al, ?_⟩
    rw [List.getElem?_eq_getElem al] at hg
    have hg : (leftOf lot z.1)[a] = _ := hg
    rw [hg, sum_zero]
  · obtain ⟨h1, h2, h3, h4⟩ := wi x hx
    exact ⟨1, 30, 4, 3, 24, x.2, sp, spb, h1, h3, by omega, h4, by omega, by decide, by decide, by decide, by decide, by decide, rfl, rfl⟩
  · exact ⟨1, 1, 3, k, [(x.1, 1)], rows, rb, one1 x, fun y hy => by rw [List.mem_singleton.mp hy]; exact kp x hx, Nat.le_of_ble_eq_true rfl, by decide, by decide, rfl, rfl⟩
  · exact ⟨(mb x hx).mono (by decide), (wb x hx).mono (by decide), (Bd.mul (mb x hx) (wb x hx)).mono (by decide)⟩
  · refine (sum_bd (B := 400) (h := fun x : Pw × Fm => met x.2 sp * worth [(x.1, 1)] rows) (fun x hx => Bd.mul (mb x hx) (wb x hx)) i).mono ?_
    omega
  · exact ⟨4, lot.length, sp, fun x hx => (spb x hx).1, by omega, by decide, by omega, hl, rfl, rfl⟩
  · exact ⟨1, 9, 3, true, gath ps, mix rows lot x.1, mr x hx, b9, kT, by omega, by decide, by decide, rfl, rfl⟩
  · exact ⟨(db x hx).mono (by decide), (gb x hx).mono (by decide), (Bd.mul (db x hx) (gb x hx)).mono (by decide)⟩
  · refine (sum_bd (B := 51) (h := fun x : List (List Rat) × Rat => x.2 * worth (gath ps) (mix rows lot x.1)) (fun x hx => Bd.mul (db x hx) (gb x hx)) i).mono ?_
    omega
  · exact otot_goal hone hr kN hlt
/-- the hypothesis hO of NbD15 -/
theorem hO_ok (n N : Nat) (f : Fm) (sp : Spr) (c : Nat → Bool) (rows : List (List Rat)) (n0 : 1 ≤ n) (n1 : n ≤ 2) (N0 : 1 ≤ N) (N1 : N ≤ 3) (fok : FormOk N n f) (sok : SpOk n sp) (hr : rows.length = N) (hrs : ∀ r ∈ rows, ∃ x ∈ sp, r = x.1) : OvOk f ((List.range N).filter c) sp rows :=
  ov_ok n0 n1 N0 N1 fok sok hr hrs (by have := List.length_filter_le c (List.range N); rw [List.length_range] at this; omega) fun a ha => List.mem_range.mp (List.mem_filter.mp ha).1
end NB
end S_NbO3

section S_NbK1
set_option Elab.async false
set_option linter.all false
set_option maxRecDepth 100000
set_option maxHeartbeats 4000000
namespace NB
open PySem PySem.Spec PyProof.Rows L2

/-! ### what a set asks of a nested key -/
section
variable {P : Program} {w : World}
def Plain0 (P : Program) (w : World) (n : Nat) (s : Shared) (v : Value) : Prop := ∀ (A : Around) (E : Value → Shared → Prop) (Q : Bool → Shared → Prop), Q false s → wpAny (model P w) A (ofAClassStatement n v) Q E s
def ByVal (P : Program) (w : World) (n : Nat) (s : Shared) (v : Value) : Prop := ∀ (A : Around) (E : Value → Shared → Prop) (Q : Bool → Shared → Prop), Q true s → wpAny (model P w) A (hashByValue n v) Q E s
theorem plain0_tup {n : Nat} {s : Shared} {b : Addr} {ob : Obj} {us : Array Value} {j : Nat} (g1 : s.heap.get? b = some ob) (g2 : ob.cls = .type "tuple") (g3 : ob.data = .seq us j) (all : ∀ v ∈ us.toList, Plain0 P w n s v) : Plain0 P w (n + 1) s (.ref b) := fun A E Q fin => by
  have ty : s.TypeIs (.ref b) "tuple" := ⟨ob, g1, g2⟩
  unfold ofAClassStatement
  refine wpAny_bind (wpAny_typeOf ty ?_)
  dsimp only
  have tt : (("tuple" : String) == "tuple") = true := by decide
  simp only [tt, if_true, Bool.not_true, Bool.false_eq_true, if_false]
  try refine wpAny_bind (wpAny_pure ?_)
  try simp only [Bool.not_true, Bool.false_eq_true, if_false]
  show wpAny _ _ (seqItems? (.ref b) >>= _) _ _ s
  refine wpAny_bind (wpAny_seqItems g1 g3 ?_)
  dsimp only
  refine wpAny_bind ?_
  show wpAny _ _ (forIn us _ _) _ _ s
  rw [← Array.forIn_toList]
  refine wpAny_forIn_list _ (fun more r z => r.1 = none ∧ z = s ∧ ∀ v ∈ more, Plain0 P w n s v) _ ?_ ?_ _ _ ⟨rfl, rfl, all⟩
  · rintro v more r z ⟨h1, rfl, h3⟩
    refine wpAny_bind (h3 v List.mem_cons_self A _ _ ?_)
    simp only [Bool.false_eq_true, if_false]
    exact wpAny_pure ⟨rfl, rfl, fun y hy => h3 y (List.mem_cons_of_mem _ hy)⟩
  · rintro ⟨x1, x2⟩ z ⟨h1, rfl, _⟩
    simp only at h1
    subst h1
    exact wpAny_pure fin
theorem byVal_tup {n : Nat} {s : Shared} {b : Addr} {ob : Obj} {us : Array Value} {j : Nat} (g1 : s.heap.get? b = some ob) (g2 : ob.cls = .type "tuple") (g3 : ob.data = .seq us j) (all : ∀ v ∈ us.toList, ByVal P w n s v) : ByVal P w (n + 1) s (.ref b) := fun A E Q fin => by
  have ty : s.TypeIs (.ref b) "tuple" := ⟨ob, g1, g2⟩
  unfold hashByValue
  refine wpAny_bind (wpAny_specialOf ty F.slot_tuple_hash.lookup ?_)
  show wpAny _ _ (seqItems? (.ref b) >>= _) _ _ s
  refine wpAny_bind (wpAny_seqItems g1 g3 ?_)
  refine wpAny_bind ?_
  show wpAny _ _ (forIn us _ _) _ _ s
  rw [← Array.forIn_toList]
  refine wpAny_forIn_list _ (fun more r z => r.1 = none ∧ z = s ∧ ∀ v ∈ more, ByVal P w n s v) _ ?_ ?_ _ _ ⟨rfl, rfl, all⟩
  · rintro v more r z ⟨h1, rfl, h3⟩
    refine wpAny_bind (h3 v List.mem_cons_self A _ _ ?_)
    simp only [Bool.not_true, Bool.false_eq_true, if_false]
    exact wpAny_pure ⟨rfl, rfl, fun y hy => h3 y (List.mem_cons_of_mem _ hy)⟩
  · rintro ⟨x1, x2⟩ z ⟨h1, rfl, _⟩
    simp only at h1
    subst h1
    exact wpAny_pure fin
theorem plain0_int (n : Nat) (s : Shared) (i : Int) (t : Tok) : Plain0 P w n s (.int i t) := fun A E Q fin => by
  rw [show ofAClassStatement n (.int i t) = pure false from by cases n <;> rfl]
  exact wpAny_pure fin
theorem plain0_bool (n : Nat) (s : Shared) (b : Bool) : Plain0 P w n s (.bool b) := fun A E Q fin => by
  rw [show ofAClassStatement n (.bool b) = pure false from by cases n <;> rfl]
  exact wpAny_pure fin
theorem byVal_int (n : Nat) (s : Shared) (i : Int) (t : Tok) : ByVal P w n s (.int i t) := fun A E Q fin => by
  rw [show hashByValue n (.int i t) = pure true from by cases n <;> rfl]
  exact wpAny_pure fin
theorem byVal_bool (n : Nat) (s : Shared) (b : Bool) : ByVal P w n s (.bool b) := fun A E Q fin => by
  rw [show hashByValue n (.bool b) = pure true from by cases n <;> rfl]
  exact wpAny_pure fin
mutual
theorem asks_key : ∀ (d : PyData) (v : Value) (n : Nat) (s : Shared), pd d = true → NestedIs s.heap (nk d) v → (nk d).depth ≤ n → Plain0 P w n s v ∧ ByVal P w n s v
  | .int i, v, n, s, _, x, _ => by
    rw [nk] at x
    cases x with
    | bool e => exact ⟨plain0_bool n s _, byVal_bool n s _⟩
    | int _ t => exact ⟨plain0_int n s i t, byVal_int n s i t⟩
  | .tuple ds, v, n, s, p, x, hn => by
    rw [nk] at x hn
    cases x with
    | tup g1 g2 g3 g4 =>
      simp only [NestedKey.depth] at hn
      cases n with
      | zero => omega
      | succ n =>
        have h := asks_keys ds _ n s (by simpa [pd] using p) g4 (by omega)
        exact ⟨plain0_tup g1 g2 g3 fun v hv => (h v hv).1, byVal_tup g1 g2 g3 fun v hv => (h v hv).2⟩
  | .none, _, _, _, p, _, _ => by simp [pd] at p
  | .bool _, _, _, _, p, _, _ => by simp [pd] at p
  | .str _, _, _, _, p, _, _ => by simp [pd] at p
  | .list _, _, _, _, p, _, _ => by simp [pd] at p
  | .dict _, _, _, _, p, _, _ => by simp [pd] at p
theorem asks_keys : ∀ (ds : List PyData) (vs : List Value) (n : Nat) (s : Shared), pdA ds = true → NestedAll s.heap (nkA ds) vs → NestedKey.depthAll (nkA ds) ≤ n → ∀ v ∈ vs, Plain0 P w n s v ∧ ByVal P w n s v
  | [], vs, n, s, _, x, _, v, hv => by
    rw [nkA] at x
    cases x; cases hv
  | d :: ds, vs, n, s, p, x, hn, v, hv => by
    rw [pdA, Bool.and_eq_true] at p
    rw [nkA] at x hn
    simp only [NestedKey.depthAll] at hn
    cases x with
    | cons x1 x2 =>
      rcases List.mem_cons.mp hv with e | hv
      · rw [e]; exact asks_key d _ n s p.1 x1 (by omega)
      · exact asks_keys ds _ n s p.2 x2 (by omega) v hv
end
/-- the tuple at b is the key d -/
structure KyAt (h : Heap) (d : PyData) (b : Addr) : Prop where
  is : NestedIs h (nk d) (.ref b)
  good : pd d = true
  deep : (nk d).depth ≤ 8
abbrev kyh (w : World) (d : PyData) : Int := (nk d).hash w
theorem KyAt.at {h h' : Heap} {d : PyData} {b : Addr} (x : KyAt h d b) (k : ∀ a o vs n, h.get? a = some o → o.data = .seq vs n → h'.get? a = some o) : KyAt h' d b := ⟨NestedIs.at k _ _ x.is, x.good, x.deep⟩
theorem KyAt.keep {h h' : Heap} {d : PyData} {b : Addr} (x : KyAt h d b) (k : ∀ a o, h.get? a = some o → h'.get? a = some o) : KyAt h' d b := x.at fun a o _ _ e _ => k a o e
variable {A : Around} {E : Value → Shared → Prop} {s : Shared}
theorem unseen {d : PyData} {b : Addr} {Q : Bool → Shared → Prop} (x : KyAt s.heap d b) {ys : List Value} (hy : ∀ y ∈ ys, ∃ d' c, y = Value.ref c ∧ KyAt s.heap d' c) (fin : Q false s) : wpAny (model P w) A (searchCouldBeSeen (.ref b) ys) Q E s := by
  unfold searchCouldBeSeen
  refine wpAny_bind ?_
  refine wpAny_forIn_list _ (fun more r z => r.1 = none ∧ z = s ∧ ∀ y ∈ more, ∃ d' c, y = Value.ref c ∧ KyAt s.heap d' c) _ ?_ ?_ _ _ ⟨rfl, rfl, hy⟩
  · rintro v more r z ⟨h1, rfl, h3⟩
    obtain ⟨d', c, rfl, hc⟩ := h3 v List.mem_cons_self
    have h4 : ∀ y ∈ more, ∃ d' c, y = Value.ref c ∧ KyAt z.heap d' c := fun y hy => h3 y (List.mem_cons_of_mem _ hy)
    dsimp only
    by_cases same : (b == c || (carriedByValue (.ref b) && carriedByValue (.ref c))) = true
    · refine wp_if_pos same ?_
      exact wpAny_pure ⟨rfl, rfl, h4⟩
    · refine wp_if_neg same ?_
      refine wpAny_bind (quiet_key _ _ 8 _ x.is x.deep _ _ _ ?_)
      simp only [Bool.not_true, Bool.false_eq_true, if_false]
      refine wpAny_bind (quiet_key _ _ 8 _ hc.is hc.deep _ _ _ ?_)
      simp only [Bool.not_true, Bool.false_eq_true, if_false]
      refine wpAny_bind ((asks_key d _ 8 _ x.good x.is x.deep).1 _ _ _ ?_)
      simp only [Bool.false_eq_true, if_false]
      refine wpAny_bind ((asks_key d' _ 8 _ hc.good hc.is hc.deep).1 _ _ _ ?_)
      simp only [Bool.false_eq_true, if_false]
      exact wpAny_pure ⟨rfl, rfl, h4⟩
  · rintro ⟨x1, x2⟩ z ⟨h1, rfl, _⟩
    simp only at h1
    subst h1
    exact wpAny_pure fin

/-! ### a small set of nested keys -/
abbrev rowK (w : World) (L : List (Addr × PyData)) : List (Int × Value) := L.map fun q => (kyh w q.2, Value.ref q.1)
abbrev hashK (w : World) (L : List (Addr × PyData)) : List Int := L.map fun q => kyh w q.2
structure SetN (w : World) (h : Heap) (a : Addr) (L : List (Addr × PyData)) (es : Array (Int × Value)) (t : SetTable) : Prop where
  ob : ∃ o ep, h.get? a = some o ∧ o.ExactSet ∧ o.data = .set es ep t
  rows : es.toList = rowK w L
  tab : TabOk t (hashK w L)
  keys : ∀ q ∈ L, KyAt h q.2 q.1
  led : w.params.followText "set-order" = true ∨ t.led = true
  m7 : t.mask = 7
  few : L.length ≤ 4
variable {a : Addr} {L : List (Addr × PyData)} {es : Array (Int × Value)} {t : SetTable}
theorem SetN.sz (R : SetN w s.heap a L es t) : es.size = L.length := by
  rw [← Array.length_toList, R.rows, List.length_map]
theorem SetN.fits (R : SetN w s.heap a L es t) : t.fits es.size = true := by
  have q1 := R.tab.sz
  rw [List.length_map] at q1
  have q2 := R.sz
  have q3 := R.few
  have q4 := R.m7
  unfold SetTable.fits SetTable.fill
  rw [R.tab.dm, Bool.and_eq_true, beq_iff_eq, decide_eq_true_eq]
  refine ⟨by omega, ?_⟩
  show t.place.size + 0 ≤ t.mask
  omega
theorem SetN.entry (R : SetN w s.heap a L es t) {i : Nat} {q : Addr × PyData} (h : L[i]? = some q) : es[i]? = some (kyh w q.2, Value.ref q.1) := by
  rw [← Array.getElem?_toList, R.rows, List.getElem?_map, h]; rfl
/-- the search for a key that isn't there -/
theorem find_free (R : SetN w s.heap a L es t) {b : Addr} {d : PyData} (x : KyAt s.heap d b) (hu : A.units + 8 < cLine) (new : ∀ q ∈ L, q.2 ≠ d) {K : Nat} (k1 : K < 10 * SetTable.turns t.mask) (k2 : way t.mask (kyh w d) K ∉ t.place.toList)
    (k3 : ∀ c, c < K → way t.mask (kyh w d) c ∈ t.place.toList) {Q : SetFound → Shared → Prop} (fin : Q (.free (way t.mask (kyh w d) K) false) s) :
    ∀ (f c : Nat) (from_ : Option SetTable.Probe), from_.getD (t.probeStart (kyh w d)) = nth t.mask (runAt t.mask (SetTable.bits (kyh w d) % (t.mask + 1)) (SetTable.bits (kyh w d))) c → c ≤ K → K - c < f → wpAny (model P w) A (setSearchFrom a (.ref b) (kyh w d) true f from_) Q E s
  | 0, _, _, _, _, h => absurd h (Nat.not_lt_zero _)
  | f + 1, c, from_, at_, cK, cf => by
    obtain ⟨o, ep, ho, hx, hdat⟩ := R.ob
    rw [setSearchFrom_succ]
    refine wpAny_bind (wpAny_setState_of ho hdat R.fits ?_)
    dsimp only
    refine wp_if_neg (by unfold SetTable.gaveWay; rw [R.m7]; decide) ?_
    try refine wpAny_bind (wpAny_pure ?_)
    have nod : ∀ (n : Nat) (p : SetTable.Probe), p.dummy = none → (nth t.mask p n).dummy = none := by
      intro n
      induction n with
      | zero => intro p h; exact h
      | succ n ih =>
        intro p h
        refine ih (adv t.mask p) ?_
        unfold adv
        split <;> exact h
    have mv : ∀ q, nth t.mask (nth t.mask (runAt t.mask (SetTable.bits (kyh w d) % (t.mask + 1)) (SetTable.bits (kyh w d))) c) q = nth t.mask (runAt t.mask (SetTable.bits (kyh w d) % (t.mask + 1)) (SetTable.bits (kyh w d))) (c + q) := fun q => (nth_add t.mask c _ q).symm
    have mj : ∀ q, (nth t.mask (nth t.mask (runAt t.mask (SetTable.bits (kyh w d) % (t.mask + 1)) (SetTable.bits (kyh w d))) c) q).j = way t.mask (kyh w d) (c + q) := fun q => congrArg SetTable.Probe.j (mv q)
    have spec := go_spec t R.tab.ris R.tab.dm (fun i => (es[i]?.map (·.1)).getD 0) (kyh w d) (10 * SetTable.turns t.mask) (K - c) _ (nod c _ rfl) (by omega)
      (fun q hq => by rw [mj]; exact k3 (c + q) (by omega)) (by rw [mj, show c + (K - c) = K by omega]; exact k2)
    rcases spec with ⟨q, i, hq, hi, hh, _, pr⟩ | ⟨_, pr⟩
    · have pr2 : t.probe (fun i => (es[i]?.map (·.1)).getD 0) (kyh w d) (from_.getD (t.probeStart (kyh w d))) = some (.candidate (way t.mask (kyh w d) (c + q)) i (nth t.mask (runAt t.mask (SetTable.bits (kyh w d) % (t.mask + 1)) (SetTable.bits (kyh w d))) (c + (q + 1)))) := by
        rw [at_, ← mj, ← mv]
        exact pr
      rw [pr2]
      dsimp only
      rw [mj] at hi
      have il : i < L.length := by
        have q1 : i < t.place.toList.length := (List.getElem?_eq_some_iff.mp hi).1
        have q2 := R.tab.sz
        rw [List.length_map] at q2
        rw [Array.length_toList] at q1
        omega
      obtain ⟨r, hr⟩ : ∃ r, L[i]? = some r := ⟨_, List.getElem?_eq_getElem il⟩
      have rm : r ∈ L := List.mem_of_getElem? hr
      have rk := R.keys r rm
      have ne : ¬ nk r.2 = nk d := fun e => new r rm (nk_inj _ _ rk.good x.good e)
      have go : wpAny (model P w) A (searchRest a (.ref b) (kyh w d) true f es t (way t.mask (kyh w d) (c + q)) i (nth t.mask (runAt t.mask (SetTable.bits (kyh w d) % (t.mask + 1)) (SetTable.bits (kyh w d))) (c + (q + 1)))) Q E s := by
        unfold searchRest
        rw [R.entry hr]
        dsimp only
        refine wpAny_bind (wpAny_holding ((nestedKind P w).eqBool hu ⟨rk.is, rk.deep⟩ ⟨x.is, x.deep⟩ ?_))
        rw [decide_eq_false ne]
        refine wpAny_bind (wpAny_setState_of ho hdat R.fits ?_)
        dsimp only
        refine wp_if_neg (by simp) ?_
        try refine wpAny_bind (wpAny_pure ?_)
        rw [sameMem]
        dsimp only
        have lv : t.slot (way t.mask (kyh w d) (c + q)) = .live i := slot_live R.tab.ris hi
        simp only [if_true, lv, R.entry hr]
        refine wpAny_bind (wpAny_isSame_ref_self (wpAny_bind (wpAny_pure ?_)))
        simp only [if_true]
        refine wp_if_neg (by simp) ?_
        exact find_free R x hu new k1 k2 k3 fin f (c + (q + 1)) _ rfl (by omega) (by omega)
      by_cases hl : t.led = true
      · refine wp_if_neg (by simp [hl]) ?_
        try refine wpAny_bind (wpAny_pure ?_)
        exact go
      · refine wp_if_pos (by simp [hl]) ?_
        refine wpAny_bind (unseen x (fun y hy => ?_) ?_)
        · obtain ⟨e, he, rfl⟩ := List.mem_map.mp hy
          have he1 : e ∈ es ∧ e.1 = kyh w d := by simpa using he
          have he2 : e ∈ es.toList := by simpa using he1.1
          rw [R.rows] at he2
          obtain ⟨u, hu2, rfl⟩ := List.mem_map.mp he2
          exact ⟨u.2, u.1, rfl, R.keys u hu2⟩
        · refine wp_if_neg (by decide) ?_
          try refine wpAny_bind (wpAny_pure ?_)
          exact go
    · have pr2 : t.probe (fun i => (es[i]?.map (·.1)).getD 0) (kyh w d) (from_.getD (t.probeStart (kyh w d))) = some (.empty (way t.mask (kyh w d) K) none) := by
        have e2 : way t.mask (kyh w d) K = (nth t.mask (nth t.mask (runAt t.mask (SetTable.bits (kyh w d) % (t.mask + 1)) (SetTable.bits (kyh w d))) c) (K - c)).j := by
          rw [mj, show c + (K - c) = K by omega]
        rw [at_, e2]
        exact pr
      rw [pr2]
      dsimp only
      exact wpAny_pure fin
/-- a key that isn't there is put in; the table is not laid anew -/
theorem put_new (R : SetN w s.heap a L es t) {b : Addr} {d : PyData} (x : KyAt s.heap d b) (hu : A.units + 8 < cLine) (new : ∀ q ∈ L, q.2 ≠ d) (few : L.length ≤ 3) {Q : Bool → Shared → Prop}
    (fin : ∀ h' L' es' t', Heap.SameBut a s.heap h' → SetN w h' a L' es' t' → L'.Perm ((b, d) :: L) → Q true { s with heap := h' }) : wpAny (model P w) A (setAddHashed a (.ref b) (kyh w d)) Q E s := by
  obtain ⟨o, ep, ho, hx, hdat⟩ := R.ob
  have sz := R.sz
  have m7 := R.m7
  unfold setAddHashed
  refine wpAny_holding ?_
  rw [show (100000 : Nat) = 99999 + 1 from rfl, setAddHashedIn_succ]
  refine wpAny_bind (wpAny_setState_of ho hdat R.fits ?_)
  dsimp only
  refine wp_if_neg (by simp [byScan, Value.scannable]) ?_
  try refine wpAny_bind (wpAny_pure ?_)
  obtain ⟨K, k1, k2, k3⟩ := R.tab.first (by rw [List.length_map]; omega) (kyh w d)
  have kb : K < 100000 := by
    have : 10 * SetTable.turns t.mask ≤ 1420 := by
      unfold SetTable.turns
      omega
    omega
  refine wpAny_bind ?_
  unfold setSearch
  refine find_free R x hu new k1 k2 k3 ?_ 100000 0 none rfl (Nat.zero_le _) (by omega)
  dsimp only
  refine wpAny_bind (wpAny_setState_of ho hdat R.fits ?_)
  dsimp only
  obtain ⟨q1, q2, q3, q4, q5, q6, q7, q8, q9⟩ := R.tab.put k2 k3
  generalize hpt : t.put (way t.mask (kyh w d) K) = pt at q1 q3 q4 q5 q6 q7 q8 q9 ⊢
  obtain ⟨t1, p⟩ := pt
  dsimp only at q1 q3 q4 q5 q6 q7 q8 q9 ⊢
  subst q1
  have hin : (SetTable.insertAt es (SetTable.below t.place (way t.mask (kyh w d) K)) (kyh w d, Value.ref b)).toList = rowK w (L.take (SetTable.below t.place (way t.mask (kyh w d) K)) ++ (b, d) :: L.drop (SetTable.below t.place (way t.mask (kyh w d) K))) := by
    rw [SetTable.toList_insertAt, R.rows]
    unfold rowK
    rw [List.map_append, List.map_cons, List.map_take, List.map_drop]
  generalize SetTable.below t.place (way t.mask (kyh w d) K) = p at q2 q3 hin ⊢
  have pm : (L.take p ++ (b, d) :: L.drop p).Perm ((b, d) :: L) := put_perm L p (b, d)
  have pl : (L.take p ++ (b, d) :: L.drop p).length = L.length + 1 := pm.length_eq
  have hh : hashK w (L.take p ++ (b, d) :: L.drop p) = (hashK w L).take p ++ kyh w d :: (hashK w L).drop p := by
    unfold hashK
    rw [List.map_append, List.map_cons, List.map_take, List.map_drop]
  rw [← hh] at q3
  have es1 : (SetTable.insertAt es p (kyh w d, Value.ref b)).size = L.length + 1 := by
    rw [← Array.length_toList, hin]
    unfold rowK
    rw [List.length_map, pl]
  generalize SetTable.insertAt es p (kyh w d, Value.ref b) = es' at hin es1 ⊢
  generalize L.take p ++ (b, d) :: L.drop p = L' at pm pl q3 hin
  -- whatever plain says
  have rest : ∀ t2 : SetTable, TabOk t2 (hashK w L') → t2.led = t.led → t2.mask = t.mask → t2.fill = L.length + 1 →
      wpAny (model P w) A (do
        storeSet a es' t2
        if !false && t2.tooFull then setRelay a (SetTable.grown (es.size + 1))
        return true) Q E s := by
    intro t2 T2 el em ef
    refine wpAny_bind (wpAny_storeSet_of ho hdat ?_ (by rw [es1, sizeLine_eq]; omega))
    have nf : t2.tooFull = false := by
      unfold SetTable.tooFull
      rw [em, ef, m7]
      exact decide_eq_false (by omega)
    have sb : Heap.SameBut a s.heap (s.heap.update a (Obj.putSet es' t2)) := Heap.SameBut.update ..
    have ho2 := store_at (es' := es') (t' := t2) ho hdat
    have seqs : ∀ b' o' vs n, s.heap.get? b' = some o' → o'.data = .seq vs n → (s.heap.update a (Obj.putSet es' t2)).get? b' = some o' := fun b' o' vs n e e2 => by
      refine (sb.2 b' fun z => ?_).trans e
      subst z
      rw [ho] at e
      cases e
      rw [hdat] at e2
      cases e2
    have done := fin _ L' es' t2 sb ⟨⟨_, _, ho2, ⟨hx.1, hx.2.1, hx.2.2⟩, rfl⟩, hin, T2, fun q hq => ?_, by rw [el]; exact R.led, by rw [em]; exact m7, by omega⟩ pm
    · simp only [nf, Bool.and_false, Bool.false_eq_true, if_false]
      try refine wpAny_bind (wpAny_pure ?_)
      exact wpAny_pure done
    · rcases List.mem_cons.mp (pm.mem_iff.mp hq) with e | hq
      · rw [e]; exact x.at seqs
      · exact (R.keys q hq).at seqs
  have fl : t1.fill = L.length + 1 := by rw [q9, List.length_map]
  by_cases hp : t1.plain = true
  · first
      | (refine wpAny_bind ?_; refine wp_if_pos hp ?_; refine (asks_key d _ 8 _ x.good x.is x.deep).2 _ _ _ ?_)
      | refine wp_if_pos hp (wpAny_bind ((asks_key d _ 8 _ x.good x.is x.deep).2 _ _ _ ?_))
    simp only [if_true]
    exact rest t1 q3 q5 q4 fl
  · first
      | (refine wpAny_bind ?_; refine wp_if_neg hp ?_; refine wpAny_pure ?_)
      | refine wp_if_neg hp (wpAny_bind (wpAny_pure ?_))
    simp only [if_true]
    exact rest t1 q3 q5 q4 fl
end
end NB
end S_NbK1

section S_NbK2
set_option Elab.async false
set_option linter.all false
set_option maxRecDepth 100000
set_option maxHeartbeats 6400000
namespace NB
open PySem PySem.Spec PyProof.Rows L2 PySem.W

section
variable {P : Program} {w : World} {A : Around} {E : Value → Shared → Prop} {s : Shared}
theorem setN_new {h : Heap} {a : Addr} (ho : h.get? a = some { cls := .type "set", dict := none, data := .set #[] 0 (.fresh 0 0 (!w.params.followText "set-order")) }) : SetN w h a [] #[] (.fresh 0 0 (!w.params.followText "set-order")) where
  ob := ⟨_, _, ho, ⟨rfl, rfl, rfl⟩, rfl⟩
  rows := rfl
  tab := ⟨List.Pairwise.nil, rfl, rfl, .inl rfl, fun x hx => (by cases hx), fun i h j hi => (by simp at hi)⟩
  keys := fun q hq => (by cases hq)
  led := by
    show _ ∨ (!w.params.followText "set-order") = true
    cases w.params.followText "set-order"
    · exact .inr rfl
    · exact .inl rfl
  m7 := rfl
  few := Nat.zero_le _
theorem SetN.stay {h h' : Heap} {a : Addr} {L : List (Addr × PyData)} {es : Array (Int × Value)} {t : SetTable} (R : SetN w h a L es t) (ha : ∀ o, h.get? a = some o → h'.get? a = some o) (hk : ∀ q ∈ L, KyAt h' q.2 q.1) : SetN w h' a L es t := by
  obtain ⟨o, ep, ho, r⟩ := R.ob
  exact ⟨⟨o, ep, ha o ho, r⟩, R.rows, R.tab, hk, R.led, R.m7, R.few⟩
/-- all the items are put in, one by one: they are distinct -/
theorem fill_set {I : Addr} {fp wr : List Addr} {G : Array GenState → Array GenState → Prop} {n : Nat} {Pv : Nat → Value → Prop} {St : Nat → Shared → Prop} {R : Result → Shared → Prop} (W : WalksS P w A.in1 I fp wr G n Pv St) (S : Addr) (nS : S ∉ fp) (ks : List (Addr × PyData)) (hn : n = ks.length) (h4 : ks.length ≤ 4) (nd : (ks.map (·.2)).Nodup)
    (val : ∀ i v, Pv i v → ∃ q, ks[i]? = some q ∧ v = .ref q.1) (h0 : Heap) (hk : ∀ q ∈ ks, KyAt h0 q.2 q.1) (n0 : h0.get? S = none) (nw : ∀ b ∈ wr, h0.get? b = none) (hu : A.in1.units + 8 < cLine) :
    ∀ (k i : Nat) (s : Shared), n - i = k → i ≤ n → St i s → (∀ b o, h0.get? b = some o → s.heap.get? b = some o) → (∃ L es t, SetN w s.heap S L es t ∧ L.Perm (ks.take i)) →
      (∀ s' L es t, Moved (S :: wr) G s s' → SetN w s'.heap S L es t → L.Perm ks → (∀ b o, h0.get? b = some o → s'.heap.get? b = some o) → R (.ok (.ret .none)) s') →
      codeAny (model P w) A (.builtin "set.update.loop" ⟨[.ref S, .ref I], []⟩) R s := by
  have nSw : S ∉ wr := fun z => nS (W.sub _ z)
  have sub : ∀ b ∈ wr, b ∈ S :: wr := fun b hb => List.mem_cons_of_mem _ hb
  have kept : ∀ {s s' : Shared}, Moved wr G s s' → (∀ b o, h0.get? b = some o → s.heap.get? b = some o) → ∀ b o, h0.get? b = some o → s'.heap.get? b = some o := fun mv kp b o e =>
    mv.heap b o (fun hb => by rw [nw b hb] at e; cases e) (kp b o e)
  intro k
  induction k with
  | zero =>
    intro i s ek il st kp ⟨L, es, t, hS, pm⟩ fin
    obtain rfl : i = n := by omega
    refine codeAny_builtin F.entry_set_update_loop ?_
    rw [Around.under_plainId F.plain_set_update_loop _]
    show wpAny _ A.in1 (pyNext (.ref I) >>= _) _ _ s
    refine wpAny_bind (W.done s _ _ st fun s' mv => ?_)
    show wpAny _ A.in1 (ret Value.none) _ _ s'
    have kp' := kept mv kp
    rw [hn, List.take_length] at pm
    exact wpAny_pure (fin s' L es t (mv.mono sub) (hS.stay (fun o e => mv.heap S o nSw e) fun q hq => (hk q (pm.mem_iff.mp hq)).keep kp') pm kp')
  | succ k ih =>
    intro i s ek il st kp ⟨L, es, t, hS, pm⟩ fin
    have lt : i < n := by omega
    refine codeAny_builtin F.entry_set_update_loop ?_
    rw [Around.under_plainId F.plain_set_update_loop _]
    show wpAny _ A.in1 (pyNext (.ref I) >>= _) _ _ s
    refine wpAny_bind (W.item i s _ _ lt st fun v s' pv st' mv => ?_)
    obtain ⟨q, hq, rfl⟩ := val i v pv
    have kp' := kept mv kp
    have hS' : SetN w s'.heap S L es t := hS.stay (fun o e => mv.heap S o nSw e) fun r hr => (hk r (List.mem_of_mem_take (pm.mem_iff.mp hr))).keep kp'
    have x : KyAt s'.heap q.2 q.1 := (hk q (List.mem_of_getElem? hq)).keep kp'
    have ll : L.length = i := by
      rw [pm.length_eq, List.length_take]; omega
    have new : ∀ r ∈ L, r.2 ≠ q.2 := fun r hr e => by
      obtain ⟨j, hj⟩ := List.mem_iff_getElem?.mp (pm.mem_iff.mp hr)
      rw [List.getElem?_take] at hj
      split at hj
      · rename_i ji
        have h1 : (ks.map (·.2))[j]? = some r.2 := by rw [List.getElem?_map, hj]; rfl
        have h2 : (ks.map (·.2))[i]? = some q.2 := by rw [List.getElem?_map, hq]; rfl
        have ji2 : j = i := (List.getElem?_inj (i := j) (j := i) (by rw [List.length_map]; omega) nd).mp (h1.trans (by rw [e]; exact h2.symm))
        omega
      · cases hj
    show wpAny _ A.in1 (holding [Value.ref q.1] (setAdd S (.ref q.1)) >>= _) _ _ s'
    refine wpAny_bind (wpAny_holding ?_)
    unfold setAdd
    refine wpAny_holding ?_
    refine wpAny_bind (pyHash_key _ _ _ _ _ x.is (by have := x.deep; omega) ?_)
    refine put_new (s := { s' with toks := s'.toks + (nk q.2).draws }) hS' x hu new (by omega) fun h' L' es' t' sb hS2 pm2 => ?_
    have kp2 : ∀ b o, h0.get? b = some o → h'.get? b = some o := fun b o e => (sb.2 b (fun z => by rw [z, n0] at e; cases e)).trans (kp' b o e)
    have pm3 : L'.Perm (ks.take (i + 1)) := by
      rw [List.take_add_one, hq]
      exact pm2.trans ((List.Perm.cons _ pm).trans (List.perm_append_comm (l₁ := [q])))
    refine wpAny_pure ⟨plainId_quiet F.plain_set_update_loop _, ih (i + 1) _ (by omega) lt (W.frame _ s' _ _ st' (Nat.le_add_right _ _) fun b hb o e => ?_) kp2 ⟨L', es', t', hS2, pm3⟩ fun s'' L2 es2 t2 mv2 hS3 pm4 kp3 => ?_⟩
    · rw [sb.2 b (fun z : b = S => nS (by rw [← z]; exact hb))]; exact e
    · refine fin s'' L2 es2 t2 (Moved.trans W.gtrans ((mv.mono sub).then_heap (Nat.le_add_right _ _) fun b o hb e => ?_) mv2) hS3 pm4 kp3
      rw [sb.2 b (fun z : b = S => hb (by rw [z]; exact List.mem_cons_self))]; exact e

/-- set(xs), the items distinct keys, four at most -/
theorem call_set_keys {l : Addr} {items : Array Value} (ks : List (Addr × PyData)) {Q : Value → Shared → Prop} (hh : A.handled = none) (hl : s.heap.IsList l items) (hit : items.toList = ks.map fun q => Value.ref q.1) (hk : ∀ q ∈ ks, KyAt s.heap q.2 q.1) (h4 : ks.length ≤ 4) (nd : (ks.map (·.2)).Nodup) (hu : A.units + 12 < cLine)
    (fin : ∀ (h' : Heap) (tk : Nat) L es t, SetN w h' s.heap.objs.size L es t → L.Perm ks → (∀ b o, s.heap.get? b = some o → h'.get? b = some o) → Q (.ref s.heap.objs.size) { s with heap := h', toks := tk }) :
    wpAny (model P w) A (call (.type "set") [.ref l]) Q E s := by
  have isz : items.size = ks.length := by
    rw [← Array.length_toList, hit, List.length_map]
  obtain ⟨c, tl, hmro⟩ := F.called_set.mro
  have hmade := F.called_set.made
  have hsub := F.called_set.sub
  refine wpAny_call (codeAny_of_tree ?_)
  show wpAny _ _ (callAny (.type "set") _) _ _ _
  refine wpAny_pure ⟨Code.quiet_builtin _ (by decide +kernel), codeAny_builtin F.entry_type_call ?_⟩
  rw [Around.under_plain (weight_type_call_type "set" [.ref l] []) rfl]
  have h1 := F.called_set.notType
  have h2 := F.called_set.canCreate
  have hct := F.typeCall_set_1 (.ref l)
  repeat (any_goals (first | assumption | wp_step))
  refine codeAny_mono (code_set_led1 (.ref l) (E := E) (Q₁ := fun obj s₁ => obj = .ref s.heap.objs.size ∧ s₁ = { s with heap := s.heap.push { cls := .type "set", dict := none, data := .set #[] 0 (.fresh 0 0 (!w.params.followText "set-order")) } }) ⟨rfl, rfl⟩) fun r s₁ hr => ?_
  cases r with
  | error e => exact hr
  | ok fl =>
    cases fl with
    | ret obj =>
      obtain ⟨rfl, rfl⟩ := hr
      have at0 : (s.heap.push { cls := .type "set", dict := none, data := .set #[] 0 (.fresh 0 0 (!w.params.followText "set-order")) }).get? s.heap.objs.size = some { cls := .type "set", dict := none, data := .set #[] 0 (.fresh 0 0 (!w.params.followText "set-order")) } := Heap.get?_push_size _ rfl
      have hT : Shared.TypeIs { s with heap := s.heap.push { cls := .type "set", dict := none, data := .set #[] 0 (.fresh 0 0 (!w.params.followText "set-order")) } } (.ref s.heap.objs.size) "set" := ⟨_, at0, rfl⟩
      have hli := F.called_set.init.lookup
      have hbi := F.called_set.init.bind (.ref s.heap.objs.size)
      repeat (any_goals (first | assumption | wp_step))
      refine codeAny_mono (codeAny_call_builtin (R := wants (fun r s₂ => r = .none ∧ ∃ h' tk L es t, s₂ = { s with heap := h', toks := tk } ∧ SetN w h' s.heap.objs.size L es t ∧ L.Perm ks ∧ (∀ b o, s.heap.get? b = some o → h'.get? b = some o)) E) F.called_set.init.plain F.entry_set_init (check_set_init_1 hT ?_)) fun r₂ s₂ hr₂ => ?_
      · obtain ⟨ol, hol, hcl, nl, hdl⟩ := hl
        obtain ⟨ocls, odict, odata, oslots⟩ := ol
        simp only at hcl hdl
        subst hcl; subst hdl
        have hol' : (s.heap.push { cls := .type "set", dict := none, data := .set #[] 0 (.fresh 0 0 (!w.params.followText "set-order")) }).get? l = some { cls := .type "list", dict := odict, data := .seq items nl, slots := oslots } := Heap.get?_push_of_some _ hol
        have hsls := F.sub_list_set
        have hslf := F.sub_list_frozenset
        have hne : (Value.type "list" == Value.type "dict") = false := by decide
        have hl1 : (s.heap.push { cls := .type "set", dict := none, data := .set #[] 0 (.fresh 0 0 (!w.params.followText "set-order")) }).IsList l items := ⟨_, hol', rfl, nl, rfl⟩
        unfold Builtin.«set.__init__» noKeywords Builtin.Frozenset.updateFrom
        generalize hPI : pyIter = PI
        wp_walk
        subst hPI
        refine wpAny_pyIter_list hl1 ?_
        refine wpAny_bind (wpAny_runValue ?_)
        have lS : l < s.heap.objs.size := Heap.lt_size hol
        have hh3 : A.in1.in1.in1.handled = none := by simp [hh]
        have hneI : l ≠ (s.heap.push { cls := .type "set", dict := none, data := .set #[] 0 (.fresh 0 0 (!w.params.followText "set-order")) }).objs.size := by
          rw [Heap.size_push]; exact Nat.ne_of_lt (Nat.lt_succ_of_lt lS)
        have nSf : s.heap.objs.size ∉ [(s.heap.push { cls := .type "set", dict := none, data := .set #[] 0 (.fresh 0 0 (!w.params.followText "set-order")) }).objs.size, l] := by
          rw [Heap.size_push]; simp only [List.mem_cons, List.mem_singleton, List.not_mem_nil, or_false, not_or]
          exact ⟨Nat.ne_of_lt (Nat.lt_succ_self _), Nat.ne_of_gt lS⟩
        have val : ∀ (i : Nat) (v : Value), items[i]? = some v → ∃ q, ks[i]? = some q ∧ v = .ref q.1 := fun i v hv => by
          have e : items.toList[i]? = some v := by rw [Array.getElem?_toList]; exact hv
          rw [hit, List.getElem?_map] at e
          obtain ⟨q, hq, rfl⟩ := Option.map_eq_some_iff.mp e
          exact ⟨q, hq, rfl⟩
        have none_of : ∀ b, s.heap.objs.size ≤ b → s.heap.get? b = none := fun b hb => Heap.get?_none_of_le hb
        refine fill_set ((Walks.list hh3 _ l hneI items).toS) s.heap.objs.size nSf ks isz h4 nd val s.heap hk (none_of _ (Nat.le_refl _)) (fun b hb => none_of b (by
            rw [List.mem_singleton.mp hb, Heap.size_push]
            exact Nat.le_succ _)) (by show A.units + 1 + 1 + 1 + 8 < cLine; omega) (items.size - 0) 0 _ (by omega) (Nat.zero_le _)
          ⟨⟨_, Heap.get?_push_size _ rfl, rfl, rfl⟩, (hl1.push _)⟩ (fun b o e => Heap.get?_push_of_some _ (Heap.get?_push_of_some _ e)) ?hS0 ?hR
        case hS0 =>
          have hget : ((s.heap.push { cls := .type "set", dict := none, data := .set #[] 0 (.fresh 0 0 (!w.params.followText "set-order")) }).push { cls := .type "list_iterator", data := .fields #[.ref l, .int 0 0] }).get? s.heap.objs.size
              = some { cls := .type "set", dict := none, data := .set #[] 0 (.fresh 0 0 (!w.params.followText "set-order")) } := Heap.get?_push_of_some _ at0
          exact ⟨[], #[], _, setN_new hget, List.Perm.refl _⟩
        case hR =>
          intro s' L es t hm hS' pm hkp
          obtain ⟨h', g2, d', tk', os'⟩ := s'
          have eg : g2 = s.gens := hm.gens
          have ed : d' = s.drawn := hm.drawn
          have eo : os' = s.os := hm.os
          subst eg; subst ed; subst eo
          show wpAny _ _ _ _ _ _
          refine wpAny_pure ?_
          show wpAny _ _ (ret Value.none) _ _ _
          exact wpAny_pure ⟨rfl, h', tk', L, es, t, rfl, hS', pm, hkp⟩
      · cases r₂ with
        | error e => exact hr₂
        | ok fl₂ =>
          cases fl₂ with
          | ret r =>
            obtain ⟨rfl, h', tk, L, es, t, rfl, hS', pm, hk'⟩ := hr₂
            repeat (any_goals (first | assumption | wp_step))
            exact fin _ _ _ _ _ hS' pm hk'
          | _ => exact hr₂.elim
    | _ => exact hr.elim
end
end NB
end S_NbK2

section S_NbK3
set_option Elab.async false
set_option linter.all false
set_option maxRecDepth 100000
set_option maxHeartbeats 4000000
namespace NB
open PySem PySem.Spec PyProof.Rows L2 PySem.W

section
variable {X : Cx} {pins : List (Addr × Obj)} {σ : L2.St} {H : Hp} {s : Shared}
/-- the items of a list of keys, told by their addresses -/
theorem keys_at (I : Inv X pins σ H s) : ∀ {ks : List Pw} {vs : List V} {us : List Value}, DtA X.K H vs (ks.map encP) → Vals vs us → ∃ L : List (Addr × PyData), us = L.map (fun q => Value.ref q.1) ∧ L.map (·.2) = ks.map encP ∧ ∀ q ∈ L, KyAt s.heap q.2 q.1 ∧ Dt X.K H (.ref q.1) q.2
  | [], _, _, h, r => by
    cases h; cases r
    exact ⟨[], rfl, rfl, fun q hq => by cases hq⟩
  | k :: ks, _, _, h, r => by
    cases h with
    | cons h1 h2 =>
      cases r with
      | cons r1 r2 =>
        obtain ⟨L, e1, e2, e3⟩ := keys_at I h2 r2
        obtain ⟨a, xs, rfl, _, _⟩ := dt_tup (show Dt X.K H _ (.tuple (k.map encM)) from h1)
        cases r1
        refine ⟨(a, encP k) :: L, by rw [List.map_cons, e1], by rw [List.map_cons, List.map_cons, e2], fun q hq => ?_⟩
        rcases List.mem_cons.mp hq with e | hq
        · rw [e]
          exact ⟨⟨Dt.nested I (encP k) _ _ (pd_encP k) h1 rfl, pd_encP k, kP.dep k⟩, h1⟩
        · exact e3 q hq
theorem refs_pick {L : List (Addr × PyData)} : ∀ {vs : List Value}, (∀ v ∈ vs, v ∈ L.map fun q => Value.ref q.1) → ∃ M : List (Addr × PyData), vs = M.map (fun q => Value.ref q.1) ∧ ∀ q ∈ M, q ∈ L
  | [], _ => ⟨[], rfl, fun q hq => by cases hq⟩
  | v :: vs, h => by
    obtain ⟨M, e, hm⟩ := refs_pick fun u hu => h u (List.mem_cons_of_mem _ hu)
    obtain ⟨q, hq, rfl⟩ := List.mem_map.mp (h v List.mem_cons_self)
    exact ⟨q :: M, by rw [List.map_cons, e], fun r hr => (List.mem_cons.mp hr).elim (fun z => by rw [z]; exact hq) (hm r)⟩
theorem each_refs : ∀ M : List (Addr × PyData), (∀ q ∈ M, Dt X.K H (.ref q.1) q.2) → EachIs (fun u d => ∃ v, RelV v u ∧ Dt X.K H v d) (M.map fun q => Value.ref q.1) (M.map (·.2))
  | [], _ => .nil
  | q :: M, h => .cons ⟨.ref q.1, rfl, h q List.mem_cons_self⟩ (each_refs M fun r hr => h r (List.mem_cons_of_mem _ hr))
/-- sorted(that set): a new list, as long -/
theorem sorted_keys {a : Addr} {L : List (Addr × PyData)} {es : Array (Int × Value)} {t : SetTable} {E : Value → Shared → Prop} {Q : Value → Shared → Prop} (I : Inv X pins σ H s) (R : SetN X.w s.heap a L es t) (hd : ∀ q ∈ L, Dt X.K H (.ref q.1) q.2) (ok : SOk (L.map (·.2))) (hc : X.calm = true) (hu : X.A.units + 64 < cLine)
    (fin : ∀ s' p out c, Inv X pins σ H s' → s'.heap.get? p = some (seqObj "list" out c) → out.size = L.length → Q (.ref p) s') : wpAny (model X.prog X.w) X.A (call (.builtin "sorted") [.ref a]) Q E s := by
  obtain ⟨o, ep, ho, hx, hdat⟩ := R.ob
  have sz := R.sz
  have few := R.few
  refine Calls.call_function_entry PyProof.Rows.kind_sorted PyProof.Rows.plain_sorted PyProof.Rows.entry_sorted (PyProof.Rows.args_sorted1 _) ?_
  unfold Builtin.«sorted»
  refine wpAny_bind (m := checkCount "sorted" 1 1 _) (wpAny_pure ?_)
  refine wpAny_bind (collect_set (A := X.A.in1) (I.ok.hd hc) ⟨o, ho, hx.1, hdat⟩ R.fits (by unfold scanBound; omega) R.tab.ris R.led fun s1 vs k1 z1 g1 o1 pm => ?_)
  have es2 : es.toList.map (·.2) = L.map fun q => Value.ref q.1 := by
    rw [R.rows, List.map_map]; rfl
  rw [es2] at pm
  obtain ⟨M, rfl, hM⟩ := refs_pick fun v hv => pm.mem_iff.mp hv
  have ml : M.length = L.length := by
    have := pm.length_eq
    rw [List.length_map, List.length_map] at this; exact this
  have I1 : Inv X pins σ H s1 := by
    exact I.call' (ch := []) o1 (Un.kept k1) (I.hok.kept k1) (by rw [g1]; exact I.bare) fun b hb => (by cases hb)
  have e := each_refs (X := X) (H := H) M fun q hq => hd q (hM q hq)
  have hl : (M.map fun q => Value.ref q.1).length ≤ sizeLine := by
    rw [List.length_map, sizeLine_eq]; omega
  have okM : SOk (M.map (·.2)) := ok.sub (fun d hd => by
    obtain ⟨q, hq, rfl⟩ := List.mem_map.mp hd
    exact List.mem_map.mpr ⟨q, hM q hq, rfl⟩) (by rw [List.length_map]; omega)
  refine wpAny_bind (wpAny_newList ?_ hl)
  generalize hvs : (M.map fun q => Value.ref q.1) = vs at e hl
  have vl : vs.length = L.length := by rw [← hvs, List.length_map, ml]
  have hoL : (s1.heap.push (seqObj "list" vs.toArray 0)).get? s1.heap.objs.size = some (seqObj "list" vs.toArray 0) := Heap.get?_push_size _ rfl
  have old : ∀ b u, s1.heap.get? b = some u → (sortingHeap (s1.heap.push (seqObj "list" vs.toArray 0)) s1.heap.objs.size vs).get? b = some u := fun b u hb =>
    sortingHeap_old (Nat.ne_of_lt (Heap.lt_size hb)) (Heap.get?_push_of_some _ hb)
  have er : EachIs (fun v d => ∃ as, Reads (sortingHeap (s1.heap.push (seqObj "list" vs.toArray 0)) s1.heap.objs.size vs) v d as) vs (M.map (·.2)) :=
    (each_reads I1 e).mono fun _ _ ⟨as, r⟩ => ⟨as, PyProof.Rows.Reads.keeps (fun b u => old b u) r⟩
  refine wpAny_bind (wpAny_holding (wpAny_call_entry PyProof.Rows.slot_list_sort ⟨_, hoL, rfl⟩ PyProof.Rows.entry_list_sort
    (list_sort_vals (s := { s1 with heap := s1.heap.push (seqObj "list" vs.toArray 0) }) hoL (SortsAt.tups (s := { s1 with heap := sortingHeap (s1.heap.push (seqObj "list" vs.toArray 0)) s1.heap.objs.size vs }) er okM.al okM.tup fun d hd => units_ok hu (okM.dep d hd) 2 (by decide)) hl ⟨_, rfl, ?_⟩)
    (PyProof.Rows.args_list_sort _)))
  obtain ⟨c', hc'⟩ := PyProof.Rows.sortedHeap_at (vs := vs) (out := (sortVals (dataKind (sortingHeap (s1.heap.push (seqObj "list" vs.toArray 0)) s1.heap.objs.size vs) (M.map (·.2))) false vs vs).toArray) hoL
  refine wpAny_pure ⟨_, rfl, fin _ _ _ c' (I1.kept (t' := s1.toks) fun b u hb => ?_) hc' ?_⟩
  · have lb : b < s1.heap.objs.size := Heap.lt_size hb
    rw [PyProof.Rows.sortedHeap_old (Nat.ne_of_lt lb) (by rw [size_push']; exact Nat.lt_succ_of_lt lb)]
    exact Heap.get?_push_of_some _ hb
  · rw [List.size_toArray, sortVals_length false rfl, vl]
end
theorem set_rule {P : Program} {w : World} {K : PySem.W.Frag} : SetRule P w K := fun X p1 p2 p3 c1 c2 c3 e te hK hP hw hc hu g1 g2 g3 m1 m2 m3 he na => by
  subst hK hP hw
  refine ⟨fun pins s σ H Q I h => ?_⟩
  refine Call_ (ld_blt I g1 m1 PySem.boot_len ?_)
  refine PyProof.Rows.callWith_builtin1 (PyProof.Rows.args_cons ?_ rfl) rfl rfl
  refine Call_ (ld_blt I g2 m2 PyProof.Rows.boot_sorted ?_)
  refine PyProof.Rows.callWith_builtin1 (PyProof.Rows.args_cons ?_ rfl) rfl rfl
  refine Call_ (ld_blt I g3 m3 PyProof.Rows.boot_set ?_)
  refine PyProof.Rows.callWith_type1 (PyProof.Rows.args_cons (thn (he.run pins s σ H _ I h) fun v s1 ⟨x, H1, I1, r1, q1⟩ => PyProof.Rows.args_nil ?_) na) na rfl
  obtain ⟨p, xs, ks, rfl, hp, hx, nd, h4, q1⟩ := q1
  cases r1
  obtain ⟨its, r, pl, hz⟩ := I1.list (SqL.of hp)
  obtain ⟨L, e1, e2, e3⟩ := keys_at I1 hx r
  have ll : L.length = ks.length := by
    have := congrArg List.length e2
    rw [List.length_map, List.length_map] at this; exact this
  have nd2 : (L.map (·.2)).Nodup := by
    rw [e2]
    exact List.Pairwise.map _ (fun a b ne e => ne (kP.inj _ _ e)) nd
  refine call_set_keys (P := X.prog) (w := X.w) L (I1.ok.hd hc) pl.isList (by simpa using e1) (fun q hq => (e3 q hq).1) (by omega) nd2 (by omega) fun h' tk M es t R pm k => ?_
  refine PyProof.Rows.args_nil ?_
  have I2 : Inv X pins σ H1 { s1 with heap := h', toks := tk } := I1.kept k
  have ok : SOk (M.map (·.2)) := (sok_P (xs := ks) (by omega)).sub (fun d hd => by
    rw [← e2]
    obtain ⟨q, hq, rfl⟩ := List.mem_map.mp hd
    exact List.mem_map.mpr ⟨q, pm.mem_iff.mp hq, rfl⟩) (by rw [List.length_map, pm.length_eq]; omega)
  refine sorted_keys I2 R (fun q hq => (e3 q (pm.mem_iff.mp hq)).2) ok hc hu fun s' p out c I3 hp3 hsz => ?_
  refine PyProof.Rows.args_nil ?_
  have ml : out.size = ks.length := by rw [hsz, pm.length_eq, ll]
  refine Calls.call_len_list (items := out) ⟨_, hp3, rfl, c, rfl⟩ (by omega) ⟨.int ks.length, H1, I3.tok _, ⟨_, by rw [ml]⟩, q1⟩
end NB
end S_NbK3

section S_NbK4
set_option Elab.async false
set_option linter.all false
set_option maxRecDepth 100000
set_option maxHeartbeats 4000000
namespace NB
open PySem PySem.Spec PyProof.Rows L2 PySem.W

/-! ### a sort by keys, from the keys on, over the heap itself -/
/-- the list at a holds out; the key store at kS is still there; all else is as it was -/
def SortedAt (h : Heap) (kS a : Addr) (out : List Value) (h' : Heap) : Prop := (∀ b, b ≠ kS → b ≠ a → h'.get? b = h.get? b) ∧ (∃ c, h'.get? a = some (seqObj "list" out.toArray c)) ∧ ∃ o, h'.get? kS = some o
section
variable {prog : Program} {w : World} {A : Around} {E : Value → Shared → Prop} {s : Shared} {a kS : Addr} {keys : Array Value} {vs : List Value} {e e1 : Nat} {P : PySem.Fin → Shared → Prop}
theorem by_tail {st : SortSt} {out : List Value} (gk : s.heap.get? kS = some (seqObj "list" keys e)) (ga : s.heap.get? a = some (seqObj "list" #[] e1)) (ne : kS ≠ a) (hz : keys.size ≤ sizeLine) (oz : out.length ≤ sizeLine) (hf : failedOf st = none) (ho : (arrOf st).map (·.2) = out.toArray)
    (fin : ∀ h', SortedAt s.heap kS a out h' → P (.done (.ret .none)) { s with heap := h' }) : wpAny (model prog w) A (ksk_tail a false e1 (.ref kS) st) P E s := by
  have b1 := Heap.SameBut.update s.heap kS (Obj.mapSeq fun _ => (#[] : Array Value))
  have g1 : (s.heap.update kS (Obj.mapSeq fun _ => (#[] : Array Value))).get? a = some (seqObj "list" #[] e1) := (b1.2 a ne.symm).trans ga
  have b2 := Heap.SameBut.update (s.heap.update kS (Obj.mapSeq fun _ => (#[] : Array Value))) a (Obj.mapSeq fun _ => out.toArray)
  obtain ⟨c1, k1⟩ : ∃ c1, (s.heap.update kS (Obj.mapSeq fun _ => (#[] : Array Value))).get? kS = some (seqObj "list" #[] c1) := ⟨_, get?_update_seq gk fun _ => #[]⟩
  obtain ⟨c2, k2⟩ : ∃ c2, ((s.heap.update kS (Obj.mapSeq fun _ => (#[] : Array Value))).update a (Obj.mapSeq fun _ => out.toArray)).get? a = some (seqObj "list" out.toArray c2) := ⟨_, get?_update_seq g1 fun _ => out.toArray⟩
  have z2 : out.toArray.size ≤ sizeLine + 1 := by
    rw [List.size_toArray]
    exact Nat.le_succ_of_le oz
  unfold ksk_tail
  try dsimp only
  rw [ho]
  refine wpAny_bind (listUpdate_at gk rfl ?_ hz (Nat.zero_le _))
  refine wpAny_bind (wpAny_letGo ?_)
  refine wpAny_bind (seqEpoch_at g1 rfl ?_)
  refine wpAny_bind (listUpdate_at g1 rfl ?_ (Nat.zero_le _) z2)
  rw [hf]
  simp only [bne_self_eq_false, Bool.false_eq_true, if_false]
  exact wpAny_pure (fin _ ⟨fun b n1 n2 => (b2.2 b n2).trans (b1.2 b n1), ⟨c2, k2⟩, _, (b2.2 kS ne).trans k1⟩)
theorem by_end {κ : PyProof.Rows.KeyKind} (gk : s.heap.get? kS = some (seqObj "list" keys e)) (ga : s.heap.get? a = some (seqObj "list" #[] e1)) (ne : kS ≠ a) (S : SortsAt prog w A s κ keys.toList) (kz : keys.size = vs.length) (vz : vs.length ≤ sizeLine)
    (fin : ∀ h', SortedAt s.heap kS a (sortVals κ false keys.toList vs) h' → P (.done (.ret .none)) { s with heap := h' }) : wpAny (model prog w) A (ksk_end a false vs.toArray e1 (.ref kS) keys) P E s := by
  obtain ⟨kd, h1, h2⟩ := S.kind
  have kl : keys.toList.length = vs.length := by
    rw [Array.length_toList]
    exact kz
  have hK : PyProof.Rows.KeysOf κ (keys.zip vs.toArray) := keysOf_zip S.keys
  have ol : (sortVals κ false keys.toList vs).length = vs.length := sortVals_length false kl
  have ss : (keys.zip vs.toArray).size = vs.length := by rw [Array.size_zip, kz, List.size_toArray, Nat.min_self]
  have out_ : ∀ st' : SortSt, (arrOf st').Perm (keys.zip vs.toArray) → SortedToK κ (arrOf st') (keys.zip vs.toArray).size → Stable κ (arrOf st') (keys.zip vs.toArray) → (arrOf st').map (·.2) = (sortVals κ false keys.toList vs).toArray := by
    intro st' p1 p2 p3
    have q := sort_out (rev := false) (keys := keys) (items := vs.toArray) (xs := arrOf st') (κ := κ) hK p1 p2 p3
    have q2 := congrArg List.toArray q
    rw [Array.toArray_toList] at q2
    exact q2
  have go : ∀ st' : SortSt, failedOf st' = none → (arrOf st').map (·.2) = (sortVals κ false keys.toList vs).toArray → wpAny (model prog w) A (ksk_tail a false e1 (.ref kS) st') P E s := fun st' q1 q2 =>
    by_tail gk ga ne (by rw [kz]; exact vz) (by rw [ol]; exact vz) q1 q2 fin
  unfold ksk_end
  try dsimp only
  have skip_ : ∀ t : Sem PySem.Fin, wpAny (model prog w) A t P E s → wpAny (model prog w) A (if false = true then (do let _ ← rule "list.sort.reverse"; t) else t) P E s := fun t ht => by
    rw [if_neg Bool.false_ne_true]; exact ht
  refine skip_ _ ?_
  by_cases few : vs.toArray.size < 2
  · rw [if_pos few, if_pos few, if_neg Bool.false_ne_true]
    refine wpAny_bind (wpAny_pure ?_)
    rw [StateT.run_pure]
    refine wpAny_bind (wpAny_pure ?_)
    try dsimp only
    refine go (SortSt.mk' general' (keys.zip vs.toArray) #[] 7 none) rfl (out_ _ (Array.Perm.refl _) ?_ (Stable.refl _))
    intro i j ij hj
    rw [ss] at hj
    rw [List.size_toArray] at few
    obtain rfl : i = j := by omega
    exact KeyOrd.kle_refl _
  · rw [if_neg few, if_neg few, if_neg Bool.false_ne_true]
    rw [List.size_toArray] at few
    refine wpAny_bind (h2 (by omega) _ ?_)
    refine wpAny_bind (wpAny_mono (H.wpS_sortRunsSt (κ := κ) (kd := kd) (a₀ := keys.zip vs.toArray) (st := SortSt.mk' kd (keys.zip vs.toArray) #[] 7 none)
      (Q := fun _ st' => failedOf st' = none ∧ (arrOf st').map (·.2) = (sortVals κ false keys.toList vs).toArray)
      h1 hK ⟨Array.Perm.refl _, rfl, rfl⟩ rfl (Stable.refl _) (by rw [ss]; omega) fun st' p1 p2 p3 p4 => ⟨p2, out_ st' p1 p3 p4⟩) ?_ fun _ _ e => e)
    rintro ⟨⟨⟩, st'⟩ s' ⟨rfl, q1, q2⟩
    try dsimp only at q1 q2 ⊢
    exact go st' q1 q2
end
end NB
end S_NbK4

section S_NbK5
set_option Elab.async false
set_option linter.all false
set_option maxRecDepth 100000
set_option maxHeartbeats 4000000
namespace NB
open PySem PySem.Spec PyProof.Rows L2 PySem.W

/-! ### a lambda of parameters, nothing captured -/
/-- the words of a lambda -/
structure LmW where
  q : Str
  params : Arguments
  body : Expr
  scope : Scope
  cl : List (Str × Addr)
  c : Addr
/-- the function's object is that lambda -/
def LamO (f : Addr) (L : LmW) : HO := .ext fun h => ∃ (od : Option Addr) (sl : Array (Option Value)) (pm ctv : Value), h.get? f = some (⟨.type "function", od, .func (PySem.W.kla_fn "<lambda>" L.q L.params L.body L.scope L.cl pm (.ref L.c) ctv), sl⟩ : Obj)
abbrev LmW.nf (L : LmW) : NdefX.NF := ⟨"<lambda>", L.q, L.params, [], L.scope, L.cl, L.c⟩
theorem lamO_ne {f : Addr} {L : LmW} (ps : Array Value) : LamO f L ≠ .tbl ps := fun z => by
  unfold LamO at z
  cases z
theorem lamO_at {P : Program} {w : World} {H : Hp} {h : Heap} {f : Addr} {L : LmW} (ok : HOk P w H h) (e : H f = some (LamO f L)) : ∃ (od : Option Addr) (sl : Array (Option Value)) (pm ctv : Value), h.get? f = some (⟨.type "function", od, .func (PySem.W.kla_fn "<lambda>" L.q L.params L.body L.scope L.cl pm (.ref L.c) ctv), sl⟩ : Obj) := (ok f _ e).1
section
variable {X : Cx} {pins : List (Addr × Obj)} {σ : L2.St} {H : Hp} {s : Shared}
theorem inv_lam {L : LmW} {t' : Nat} {pm ctv : Value} (I : Inv X pins σ H s) : Inv X pins σ (upd H s.heap.objs.size (LamO s.heap.objs.size L)) { s with heap := s.heap.push { cls := .type "function", data := .func (PySem.W.kla_fn "<lambda>" L.q L.params L.body L.scope L.cl pm (.ref L.c) ctv) }, toks := t' } := by
  refine I.laid (a := s.heap.objs.size) (fun b u e => Heap.get?_push_of_some _ e) (Nat.le_refl _) ?_
  have e : (s.heap.push ({ cls := .type "function", data := .func (PySem.W.kla_fn "<lambda>" L.q L.params L.body L.scope L.cl pm (.ref L.c) ctv) } : Obj)).get? s.heap.objs.size = some _ := Heap.get?_push_size _ rfl
  exact ⟨⟨_, _, pm, ctv, e⟩, ⟨_, e⟩, fun h1 h2 ⟨od, sl, p, t, z⟩ st => ⟨od, sl, p, t, st _ z⟩⟩
/-- it is made: its code object is new, or found in the table -/
theorem lam_new {c T : Addr} {params : Arguments} {body : Expr} {scope : Scope} {pos : Pos} {E : Value → Shared → Prop} {Q : Value → Shared → Prop} (I : Inv X pins σ H s) (TB : LamX.TabB X.base X.mg c T) (hc : X.env.code = .ref c) (hT : LamX.TabS H T (X.env.qual ++ "<lambda>")) (hdef : defaultsOf params X.env = ([], [])) (hfree : ∀ y ∈ scope.names, y.2 = .free → ∃ c, X.env.cells.lookup y.1 = some c)
    (fin : ∀ (f c' : Addr) (H1 : Hp) (s' : Shared), Inv X pins σ H1 s' → (∀ b o, b ≠ T → H b = some o → H1 b = some o) → LamX.TabS H1 T (X.env.qual ++ "<lambda>") → H f = none → H1 f = some (LamO f ⟨X.env.qual ++ "<lambda>", params, body, scope, cloFrom X.env.cells scope.names [], c'⟩) → H1 c' = some (LamX.CodeO c' (X.env.qual ++ "<lambda>")) → Q (.ref f) s') :
    wpAny (model X.prog X.w) X.A (eval (.Lambda params body scope pos) X.env) Q E s := by
  obtain ⟨ps, hP, ht, ha⟩ := hT
  refine PySem.W.kla_eval hdef ?_
  have bT : s.heap.BuiltinsAt X.mg T := TB.bm.keeps I.bk
  have hP' : s.heap.get? T = some { cls := .none, data := .fields ps } := I.hok T _ hP
  cases hcode : codeAmong pos ps.toList with
  | none =>
    refine PySem.W.kla_makeFunction (mg := X.mg) (c := c) (P := T) (ps := ps) (closure_ok hfree) I.ok.glob (I.mod.glob.keeps I.bk) hc (TB.code.keeps I.bk) hP' ht hcode TB.gP bT fun c' ctv h' tk hx hge hlt hrec htb => ?_
    obtain ⟨c2, oc, vs, t, e2, hoc, hd, hv⟩ := hrec
    cases e2
    have nC : H c' = none := I.hok.fresh hge
    have I1 := LamX.inv_table (t' := tk) (more := #[rawInt pos.line, rawInt pos.col, .ref c']) (h' := h') I hP (fun b o hb e => hx b o hb e) htb hge ⟨oc, vs, t, hoc, hd, hv⟩
    have nF := I1.hok.fresh (Nat.le_refl _)
    have I2 := inv_lam (L := ⟨X.env.qual ++ "<lambda>", params, body, scope, cloFrom X.env.cells scope.names [], c'⟩) (t' := tk) (pm := (X.mg "__name__").getD .none) (ctv := ctv) I1
    have h1 : ∀ b o, b ≠ T → H b = some o → upd (upd H T (.tbl (ps ++ #[rawInt pos.line, rawInt pos.col, .ref c']))) c' (LamX.CodeO c' (X.env.qual ++ "<lambda>")) b = some o := fun b o n e => by
      rw [upd_ne (ne_of_none e nC), upd_ne n]
      exact e
    have eL : (ps ++ #[rawInt pos.line, rawInt pos.col, .ref c']).toList = ps.toList ++ [rawInt pos.line, rawInt pos.col, .ref c'] := by simp
    have nCF : c' ≠ h'.objs.size := Nat.ne_of_lt hlt
    have nTC : T ≠ c' := ne_of_none hP nC
    have nTF : T ≠ h'.objs.size := ne_of_none hP (I.hok.fresh (Nat.le_trans hge (Nat.le_of_lt hlt)))
    have e3 : ∀ b o, b ≠ T → H b = some o → upd (upd (upd H T (.tbl (ps ++ #[rawInt pos.line, rawInt pos.col, .ref c']))) c' (LamX.CodeO c' (X.env.qual ++ "<lambda>"))) h'.objs.size (LamO h'.objs.size ⟨X.env.qual ++ "<lambda>", params, body, scope, cloFrom X.env.cells scope.names [], c'⟩) b = some o := fun b o n e =>
      (upd_ne (ne_of_none (h1 b o n e) nF)).trans (h1 b o n e)
    refine fin h'.objs.size c' _ _ I2 e3 ⟨_, (upd_ne nTF).trans ((upd_ne nTC).trans upd_same), by rw [eL]; exact PySem.TriplesOk_snoc _ _ _ _ ht, fun p' cv hcv => ?_⟩ (I.hok.fresh (Nat.le_trans hge (Nat.le_of_lt hlt))) upd_same ((upd_ne nCF).trans upd_same)
    rw [eL] at hcv
    rcases LamX.among_app _ ht hcv with z | z
    · obtain ⟨c0, q1, q2⟩ := ha p' cv z
      exact ⟨c0, q1, e3 _ _ (fun z => by rw [z, hP] at q2; exact LamX.codeO_ne _ (Option.some.inj q2).symm) q2⟩
    · exact ⟨c', z, (upd_ne nCF).trans upd_same⟩
  | some cv =>
    obtain ⟨c', e, hco⟩ := ha pos cv hcode
    subst e
    refine PySem.W.kla_makeFunctionHit (mg := X.mg) (c := c) (P := T) (ps := ps) (closure_ok hfree) I.ok.glob (I.mod.glob.keeps I.bk) hc (TB.code.keeps I.bk) hP' ht hcode bT fun ctv h' tk hx hsz => ?_
    have I1 : Inv X pins σ H { s with heap := h', toks := tk } := I.kept hx
    have nF : H h'.objs.size = none := I1.hok.fresh (Nat.le_refl _)
    have I2 := inv_lam (L := ⟨X.env.qual ++ "<lambda>", params, body, scope, cloFrom X.env.cells scope.names [], c'⟩) (t' := tk) (pm := (X.mg "__name__").getD .none) (ctv := ctv) I1
    have up : ∀ b o, H b = some o → upd H h'.objs.size (LamO h'.objs.size ⟨X.env.qual ++ "<lambda>", params, body, scope, cloFrom X.env.cells scope.names [], c'⟩) b = some o := fun b o e => (upd_ne (ne_of_none e nF)).trans e
    exact fin h'.objs.size c' _ _ I2 (fun b o _ e => up b o e) (LamX.TabS.ext ⟨ps, hP, ht, ha⟩ up) nF upd_same (up _ _ hco)
end
/-- the reading of a lambda -/
def tLm (T : Addr) (q : Str) (mk : Addr → LmW) : TE := fun σ H Q => LamX.TabS H T q ∧ ∀ (f c' : Addr) (H1 : Hp), (∀ b o, b ≠ T → H b = some o → H1 b = some o) → LamX.TabS H1 T q → H f = none → H1 f = some (LamO f (mk c')) → H1 c' = some (LamX.CodeO c' q) → Q (.ref f) H1
theorem pe_lm {X : Cx} {c T : Addr} {params : Arguments} {body : Expr} {scope : Scope} {pos : Pos} (TB : LamX.TabB X.base X.mg c T) (hc : X.env.code = .ref c) (hdef : defaultsOf params X.env = ([], [])) (hfree : ∀ y ∈ scope.names, y.2 ≠ .free) :
    PE X (.Lambda params body scope pos) (tLm T (X.env.qual ++ "<lambda>") fun c' => ⟨X.env.qual ++ "<lambda>", params, body, scope, cloFrom X.env.cells scope.names [], c'⟩) :=
  ⟨fun pins s σ H Q I ⟨hT, h⟩ => lam_new I TB hc hT hdef (fun y hy e => absurd e (hfree y hy)) fun f c' H1 s' I1 eN T1 f0 f1 c1 => ⟨.ref f, H1, I1, rfl, h f c' H1 eN T1 f0 f1 c1⟩⟩
/-! ### it is called -/
section
variable {P : Program} {w : World} {K : PySem.W.Frag} {mg : Str → Option Value} {base : Heap} {N ps : List Str} {L : LmW} {f : Addr} {k : Nat} {A : Around} {outer : List Env} {s : Shared} {H : Hp} {us : List Value} {vs : List V} {tb : TE} {Q : VK}
theorem lam_run (S : NdefX.NScope N ps [] L.scope) (hcl : L.cl = []) (hb : ∀ pm ctv : Value, bindArgs (PySem.W.kla_fn "<lambda>" L.q L.params L.body L.scope L.cl pm (.ref L.c) ctv) ⟨us, []⟩ = pure (ps.zip us)) (hr : Room (k + 1) A) (e0 : Env0 P w K mg base A outer s H) (hf : H f = some (LamO f L)) (hc : H L.c = some (LamX.CodeO L.c L.q)) (r : Vals vs us) (hl : vs.length = ps.length)
    (hbody : ∀ (A : Around) (outer : List Env) (s : Shared) (H : Hp), Room k (A.deeper (NdefX.envF L.nf f s.heap.objs.size)) → PE (NdefX.ncx C8.CX0 P w K mg base N L.nf f A outer s H C8.E0) L.body tb) (h : tb (NdefX.startF N vs []) H Q) :
    codeAny (model P w) A (.call (.ref f) ⟨us, []⟩) (CR C8.CX0 outer P w H s Q C8.E0) s := by
  have lim : s.heap.NoLimit := e0.mod.nolimit.keeps fun b o e => (e0.bs b o e).1
  obtain ⟨od, sl, pm, ctv, ho⟩ := lamO_at e0.hok hf
  refine PySem.W.kla_callFunE hr.depth ho rfl S.co S.gen rfl (NdefX.codeO_at e0.hok hc) ?_
  rw [hb pm ctv]
  refine wpAny_pure (wpAny_newFunctionEnv S.nocell (fun ⟨n, _⟩ hy => S.par n (List.of_mem_zip hy).1) (fun h₁ hns hsb => ⟨lim.fresh _ hsb, ?_⟩) S.kind)
  show codeAny _ _ (.expr L.body (NdefX.envF L.nf f s.heap.objs.size)) _ _
  have kp : ∀ b o, s.heap.get? b = some o → h₁.get? b = some o := fun b o e => hsb.extBut b o (Nat.ne_of_lt (Heap.lt_size e)) (Heap.get?_push_of_some _ e)
  have C : NdefX.CellsAt L.cl [] [] s.heap H := by
    rw [hcl]
    exact { len := rfl, all := fun y c e => (by cases e), inj := fun x y c e _ => (by cases e), has := fun i y e => (by simp at e) }
  have J : Inv (NdefX.ncx C8.CX0 P w K mg base N L.nf f A outer s H C8.E0) [] (NdefX.startF N vs []) H { s with heap := h₁, toks := s.toks + (ps.zip us).length } := NdefX.inv_startN (F := L.nf) (fr := []) (ws := []) S hr.hd e0 hl r C hns kp
  refine PySem.W.kla_codeExpr (wpAny_mono ((hbody A outer s H (hr.deeper _)).run [] _ _ H Q J h) (fun v s' hq => ?_) fun e s' hq => hq)
  obtain ⟨w', H', J', rv, q⟩ := hq
  exact ⟨w', H', J'.os, J'.bare, J'.base, J'.hok, rv, q⟩
end
end NB
end S_NbK5

section S_NbK6
set_option Elab.async false
set_option linter.all false
set_option maxRecDepth 100000
set_option maxHeartbeats 4000000
namespace NB
open PySem PySem.Spec PyProof.Rows L2 PySem.W
open Evl (Ex)

section
variable {X : Cx} {pins pl : List (Addr × Obj)} {σ : L2.St} {H : Hp} {s : Shared}
/-- one that is out of reach is written -/
theorem _root_.L2.Inv.poke {b : Addr} {o o' : Obj} {h' : Heap} {t' : Nat} (I : Inv X ((b, o) :: pl) σ H s) (old : X.s_0.heap.objs.size ≤ b) (nc : ∀ x c, X.env.cells.lookup x = some c → c ≠ b) (np : ∀ p ∈ X.pn ++ pl, p.1 ≠ b) (k : ∀ d, d ≠ b → h'.get? d = s.heap.get? d) (at_ : h'.get? b = some o') (nd : ∀ v, o'.data ≠ .cell v) : Inv X ((b, o') :: pl) σ H { s with heap := h', toks := t' } := by
  obtain ⟨p1, p2, p3, p4, p5⟩ := I.pin (b, o) (List.mem_append_right _ List.mem_cons_self)
  have I1 : Inv X pl σ H s := I.pins_of fun p hp => I.pin p (List.mem_append_right _ (List.mem_cons_of_mem _ hp))
  have u : Un (frs X.stack) [b] H H s.heap h' := ⟨fun d o e n _ nx => (k d (by simpa using nx)).trans e, fun d o e n _ nx => ⟨o.slots, (k d (by simpa using nx)).trans e⟩, fun d o e n _ => n, fun d o e nx => ⟨o, (k d (by simpa using nx)).trans e⟩, fun _ _ e => e, fun _ _ _ e => e, fun d ps e => ⟨#[], by simpa using e⟩⟩
  have ok : HOk X.prog X.w H h' := fun d u e => (I.hok d u e).stay (fun d' v hd q => (k d' (by
    intro z
    subst z
    rcases hd with z | z
    · subst z; rw [e] at p2; cases p2
    · rw [z] at p2; cases p2)).trans q) (fun _ q => q) fun _ _ q => q
  have I2 : Inv X pl σ H { s with heap := h', toks := t' } := I1.call' (s' := { s with heap := h', toks := t' }) (ch := [b]) rfl u ok I.bare fun d hd => by
    rw [List.mem_singleton.mp hd]
    exact ⟨.inr old, p3, nc, np⟩
  refine I2.pins_of fun p hp => ?_
  rcases List.mem_cons.mp hp with e | hp
  · rw [e]
    exact ⟨at_, p2, p3, p4, nd⟩
  · exact I2.pin p (List.mem_append_right _ hp)
/-- the sorted list comes into reach, the key store is let go -/
theorem _root_.L2.Inv.land {a kS : Addr} {o1 o2 : Obj} {out : List Value} {zs : List V} {h' : Heap} (I : Inv X ((kS, o1) :: (a, o2) :: pl) σ H s) (old1 : X.s_0.heap.objs.size ≤ kS) (old2 : X.s_0.heap.objs.size ≤ a) (nc1 : ∀ x c, X.env.cells.lookup x = some c → c ≠ kS) (nc2 : ∀ x c, X.env.cells.lookup x = some c → c ≠ a) (np1 : ∀ p ∈ X.pn ++ pl, p.1 ≠ kS) (np2 : ∀ p ∈ X.pn ++ pl, p.1 ≠ a)
    (st : SortedAt s.heap kS a out h') (rv : Vals zs out) (hz : zs.length ≤ sizeLine) : Inv X pl σ (upd H a (.lst zs)) { s with heap := h' } := by
  obtain ⟨p1, p2, p3, p4, p5⟩ := I.pin (kS, o1) (List.mem_append_right _ List.mem_cons_self)
  obtain ⟨q1, q2, q3, q4, q5⟩ := I.pin (a, o2) (List.mem_append_right _ (List.mem_cons_of_mem _ List.mem_cons_self))
  obtain ⟨k, ⟨c, ha⟩, o, hk⟩ := st
  have I1 : Inv X pl σ H s := I.pins_of fun p hp => I.pin p (List.mem_append_right _ (List.mem_cons_of_mem _ (List.mem_cons_of_mem _ hp)))
  have kk : ∀ d o, s.heap.get? d = some o → d ∉ [kS, a] → h'.get? d = some o := fun d o e nx => (k d (fun z => nx (by simp [z])) (fun z => nx (by simp [z]))).trans e
  have na : ∀ {d : Addr} {u : HO}, H d = some u → d ≠ a := fun e z => by subst z; rw [e] at q2; cases q2
  have nk : ∀ {d : Addr} {u : HO}, H d = some u → d ≠ kS := fun e z => by subst z; rw [e] at p2; cases p2
  have u : Un (frs X.stack) [kS, a] H (upd H a (.lst zs)) s.heap h' := ⟨fun d o e n _ nx => kk d o e nx, fun d o e n _ nx => ⟨o.slots, kk d o e nx⟩, fun d o e n nx => (upd_ne (fun z => nx (by simp [z]))).trans n, fun d o e nx => ⟨o, kk d o e nx⟩, fun _ _ e => (upd_ne (na e)).trans e, fun _ _ _ e => (upd_ne (na e)).trans e, fun d ps e => ⟨#[], by rw [upd_ne (na e)]; simpa using e⟩⟩
  have ok : HOk X.prog X.w (upd H a (.lst zs)) h' := fun d u e => by
    by_cases z : d = a
    · subst z
      rw [upd_same] at e
      cases e
      exact ⟨hz, out, c, rv, ha⟩
    · rw [upd_ne z] at e
      exact (I.hok d u e).stay (fun d' v hd q => (k d' (fun y => by
        subst y
        rcases hd with y | y
        · subst y; exact nk e rfl
        · exact nk y rfl) (fun y => by
        subst y
        rcases hd with y | y
        · subst y; exact na e rfl
        · exact na y rfl)).trans q) (fun d' q => (upd_ne (na q)).trans q) fun d' _ q => (upd_ne (na q)).trans q
  exact I1.call' (s' := { s with heap := h' }) (ch := [kS, a]) rfl u ok I.bare fun d hd => by
    rcases List.mem_cons.mp hd with e | hd
    · rw [e]; exact ⟨.inr old1, p3, nc1, np1⟩
    · rw [List.mem_singleton.mp hd]; exact ⟨.inr old2, q3, nc2, np2⟩
theorem each_map {α β γ : Type} {R : α → γ → Prop} (f : β → γ) : ∀ {as : List α} {bs : List β}, EachIs (fun a b => R a (f b)) as bs → EachIs R as (bs.map f)
  | _, _, .nil => .nil
  | _, _, .cons h t => .cons h (each_map f t)
/-- sorted(xs, key=lambda ..): the items by the lists that the lambda makes of them -/
theorem sort_by {α : Type} {enc kd : α → PyData} {l f : Addr} {xs : List V} {rs : List α} {L : LmW} {N : List Str} {a1 : Str} {tb : TE} {k : Nat} {Q : VK} (I : Inv X pins σ H s) (hl : H l = some (.lst xs)) (hx : DtA X.K H xs (rs.map enc)) (hr : Room (k + 3) X.A) (S : NdefX.NScope N [a1] [] L.scope) (hcl : L.cl = [])
    (hb : ∀ (u pm ctv : Value), bindArgs (PySem.W.kla_fn "<lambda>" L.q L.params L.body L.scope L.cl pm (.ref L.c) ctv) ⟨[u], []⟩ = pure [(a1, u)]) (hf : H f = some (LamO f L)) (hc : H L.c = some (LamX.CodeO L.c L.q))
    (hbody : ∀ (A : Around) (outer : List Env) (s : Shared) (H : Hp), Room k (A.deeper (NdefX.envF L.nf f s.heap.objs.size)) → PE (NdefX.ncx C8.CX0 X.prog X.w X.K X.mg X.base N L.nf f A outer s H C8.E0) L.body tb)
    (ht : ∀ r ∈ rs, ∃ ks, kd r = .list ks ∧ VN X.K tb (enter N [enc r]) ks) (al : AllAlike (rs.map kd)) (sb : Sortable (rs.map kd)) (dp : ∀ r ∈ rs, (kd r).depth ≤ 16) (len : rs.length ≤ 1000)
    (fin : ∀ (p : Addr) (ys : List V) (H' : Hp), Ex H H' → H p = none → H' p = some (.lst ys) → DtA X.K H' ys ((rs.mergeSort (dataLe false kd)).map enc) → Q (.ref p) H') :
    wpAny (model X.prog X.w) X.A (call (.builtin "sorted") [.ref l] [(Str.ofString "key", .ref f)]) (EP X pins σ Q) X.xe s := by
  obtain ⟨its, rv, pl, hz⟩ := I.list (SqL.of hl)
  have il : its.length = rs.length := by rw [← rv.length, hx.len, List.length_map]
  have iz : its.length ≤ sizeLine := by rw [il, sizeLine_eq]; omega
  refine sorted_of_sort pl.isList iz (ksk_s1 _ _) (fun _ => ksk_l1 _ _) fun E' => ?_
  rw [ksk_t1]
  -- the heap when the keys are asked for
  have g0 := copyHeap_at s.heap its
  generalize ea : s.heap.objs.size + 1 = a at g0
  have ga : ∃ e1, ((copyHeap s.heap its).update a (Obj.mapSeq fun _ => (#[] : Array Value))).get? a = some (seqObj "list" #[] e1) := ⟨_, get?_update_seq g0 fun _ => #[]⟩
  obtain ⟨e1, ga⟩ := ga
  have cs : (copyHeap s.heap its).objs.size = s.heap.objs.size + 2 := by
    unfold copyHeap
    rw [Heap.size_push, Heap.size_update, Heap.size_push]
  have kS0 : (((copyHeap s.heap its).update a (Obj.mapSeq fun _ => (#[] : Array Value))).push (seqObj "tuple" its.toArray 0)).objs.size = s.heap.objs.size + 3 := by
    rw [Heap.size_push, Heap.size_update, cs]
  have old : ∀ b o, s.heap.get? b = some o → (sortingHeap (copyHeap s.heap its) a its).get? b = some o := fun b o e => by
    rw [← ea]; exact sorting_copy_old e
  have I0 : Inv X pins σ H { s with heap := sortingHeap (copyHeap s.heap its) a its, toks := s.toks } := I.kept old
  have lo : ∀ p ∈ X.pn ++ pins, p.1 < s.heap.objs.size := fun p hp => Heap.lt_size (I.pin p hp).1
  have lc : ∀ x c, X.env.cells.lookup x = some c → c < s.heap.objs.size := fun x c e => by
    obtain ⟨v, o, ho, _⟩ := I.cell x c e
    exact Heap.lt_size ho
  have sz := I.sz
  have lt := I.lt
  have fresh : ∀ b, s.heap.objs.size ≤ b → H b = none ∧ b ≠ X.env.locals ∧ b ∉ X.fs := fun b hb => ⟨I.hok.fresh hb, Nat.ne_of_gt (Nat.lt_of_lt_of_le lt hb), I.nofs hb⟩
  have ga2 : (sortingHeap (copyHeap s.heap its) a its).get? a = some (seqObj "list" #[] e1) := by
    unfold sortingHeap
    exact Heap.get?_push_of_some _ (Heap.get?_push_of_some _ ga)
  have gk2 : (sortingHeap (copyHeap s.heap its) a its).get? (s.heap.objs.size + 3) = some (seqObj "list" #[] 0) := by
    unfold sortingHeap
    rw [← kS0]
    exact Heap.get?_push_size _ rfl
  generalize ek : s.heap.objs.size + 3 = kS at kS0 gk2
  have ls : ∀ (xs : Array Value) (n : Nat) v, (seqObj "list" xs n).data ≠ .cell v := fun xs n v z => by cases z
  have I1 : Inv X ((kS, seqObj "list" #[] 0) :: (a, seqObj "list" #[] e1) :: pins) σ H { s with heap := sortingHeap (copyHeap s.heap its) a its, toks := s.toks } := I0.pins_of fun p hp => by
    rcases List.mem_cons.mp hp with e | hp
    · rw [e]
      obtain ⟨f1, f2, f3⟩ := fresh kS (by omega)
      exact ⟨gk2, f1, f2, f3, ls _ _⟩
    · rcases List.mem_cons.mp hp with e | hp
      · rw [e]
        obtain ⟨f1, f2, f3⟩ := fresh a (by omega)
        exact ⟨ga2, f1, f2, f3, ls _ _⟩
      · exact I0.pin p (List.mem_append_right _ hp)
  have nka : kS ≠ a := by omega
  unfold ksk_tree
  refine wpAny_bind (listItems_at g0 rfl ?_)
  refine wpAny_bind (listUpdate_at g0 rfl ?_ (by rw [List.size_toArray]; exact iz) (Nat.zero_le _))
  refine wpAny_bind (seqEpoch_at ga rfl ?_)
  refine wpAny_bind (wpAny_newTuple ?_ (by show its.length ≤ _; exact iz))
  refine wpAny_bind (wpAny_newList ?_ (Nat.zero_le _))
  refine wpAny_holding ?_
  show wpAny (model X.prog X.w) X.A.in1.in1 (ksk_rest a (.ref f) false its.toArray e1 (.ref ((((copyHeap s.heap its).update a (Obj.mapSeq fun _ => (#[] : Array Value))).push (seqObj "tuple" its.toArray 0)).objs.size))) _ _ { s with heap := sortingHeap (copyHeap s.heap its) a its, toks := s.toks }
  rw [kS0]
  unfold ksk_rest
  refine wpAny_bind (wpAny_rule ?_)
  first
    | rw [List.forIn_toArray]
    | (rw [← Array.forIn_toList]; simp only [List.toList_toArray])
    | rw [← Array.forIn_toList]
  refine wpAny_bind (ksk_fold (fun i s' => ∃ H' kA e, Inv X ((kS, seqObj "list" kA e) :: (a, seqObj "list" #[] e1) :: pins) σ H' s' ∧ Ex H H' ∧ EachIs (fun u d => ∃ v, RelV v u ∧ Dt X.K H' v d) kA.toList ((rs.take i).map kd)) its 0 _
    ⟨H, #[], 0, I1, Ex.refl _, by rw [List.take_zero]; exact .nil⟩ ?step ?done)
  case step =>
    rintro j x s' hj ⟨H', kA, e, I', ex, ky⟩
    simp only [Nat.zero_add] at ky ⊢
    have jl : j < its.length := (List.getElem?_eq_some_iff.mp hj).1
    obtain ⟨r, hrj⟩ : ∃ r, rs[j]? = some r := ⟨_, List.getElem?_eq_getElem (by omega)⟩
    obtain ⟨v, hv⟩ : ∃ v, xs[j]? = some v := ⟨_, List.getElem?_eq_getElem (by rw [rv.length]; exact jl)⟩
    obtain ⟨u, hu, rvu⟩ := rv.get hv
    obtain rfl : u = x := Option.some.inj (hu.symm.trans hj)
    obtain ⟨d, hd, hdt⟩ := hx.get hv
    have hd2 : d = enc r := by
      rw [List.getElem?_map, hrj] at hd
      exact (Option.some.inj hd).symm
    subst hd2
    obtain ⟨ks, ek2, vn⟩ := ht r (List.mem_of_getElem? hrj)
    have rc : codeAny (model X.prog X.w) X.A.in1.in1 (.call (.ref f) ⟨[u], []⟩) (CR C8.CX0 X.stack X.prog X.w H' s' (fun y H2 => Ex H' H2 ∧ Dt X.K H2 y (kd r)) C8.E0) s' :=
      lam_run (vs := [v]) (ps := [a1]) (k := k) S hcl (fun pm ctv => hb u pm ctv) hr.in1.in1 I'.env0.in1.in1 (ex _ _ hf) (ex _ _ hc) (.cons rvu .nil) rfl (fun A outer s H hr' => hbody A outer s H hr')
        (vn _ H' (Sg.start (.cons (Dt.ex ex _ _ hdt) .nil)) H' (Ex.refl _) _ fun p ys H2 _ e2 hp hy => ⟨e2, by rw [ek2]; exact .lst hp hy⟩)
    refine wpAny_bind (wpAny_attempt (wpAny_mono (wpAny_call (Q := fun y s2 => EP X ((kS, seqObj "list" kA e) :: (a, seqObj "list" #[] e1) :: pins) σ (fun y H2 => Ex H' H2 ∧ Dt X.K H2 y (kd r)) y s2) (E := fun _ _ => False) (codeAny_mono rc fun res s2 hq => ?_)) (fun y s2 he => ?_) fun _ _ hF => hF.elim))
    · cases res with
      | error e => exact (show False from hq).elim
      | ok fl =>
        cases fl with
        | ret y => exact I'.after hq
        | next => exact False.elim hq
        | brk => exact False.elim hq
        | cont => exact False.elim hq
    · obtain ⟨y', H2, I2, ry, e2, dy⟩ := he
      try dsimp only
      have nk := (I2.pin (kS, seqObj "list" kA e) (List.mem_append_right _ List.mem_cons_self)).1
      have kz : kA.size ≤ 1000 := by
        have := ky.length
        rw [Array.length_toList, List.length_map, List.length_take] at this
        omega
      have b1 := Heap.SameBut.update s2.heap kS (Obj.mapSeq (·.push y))
      obtain ⟨c2, hc2⟩ : ∃ c2, (s2.heap.update kS (Obj.mapSeq (·.push y))).get? kS = some (seqObj "list" (kA.push y) c2) := ⟨_, get?_update_seq nk (·.push y)⟩
      refine wpAny_bind (listUpdate_at nk rfl ?_ (by rw [sizeLine_eq]; omega) (by rw [Array.size_push, sizeLine_eq]; omega))
      refine wpAny_pure ⟨rfl, H2, kA.push y, c2, I2.poke (t' := s2.toks) (by omega) (fun x c hc => Nat.ne_of_lt (Nat.lt_of_lt_of_le (lc x c hc) (by omega))) (fun p hp => ?_) (fun d hd => b1.2 d hd) hc2 (ls _ _), ex.trans e2, ?_⟩
      · rcases List.mem_append.mp hp with hp | hp
        · exact Nat.ne_of_lt (Nat.lt_of_lt_of_le (lo p (List.mem_append_left _ hp)) (by omega))
        · rcases List.mem_cons.mp hp with z | hp
          · rw [z]; exact nka.symm
          · exact Nat.ne_of_lt (Nat.lt_of_lt_of_le (lo p (List.mem_append_right _ hp)) (by omega))
      · have et : (rs.take (j + 1)).map kd = (rs.take j).map kd ++ [kd r] := by rw [List.take_add_one, hrj]; simp
        have ea2 : (kA.push y).toList = kA.toList ++ [y] := by simp
        rw [et, ea2]
        exact each_snoc ⟨y', ry, dy⟩ (ky.mono fun u d ⟨v, q1, q2⟩ => ⟨v, q1, Dt.ex e2 _ _ q2⟩)
  case done =>
    rintro s' ⟨H', kA, e, I', ex, ky⟩
    simp only [Nat.zero_add] at ky
    rw [List.take_of_length_le (by omega)] at ky
    have nk := (I'.pin (kS, seqObj "list" kA e) (List.mem_append_right _ List.mem_cons_self)).1
    have na := (I'.pin (a, seqObj "list" #[] e1) (List.mem_append_right _ (List.mem_cons_of_mem _ List.mem_cons_self))).1
    have er := each_reads I' ky
    have kl : kA.size = its.length := by
      have := ky.length
      rw [Array.length_toList, List.length_map] at this
      omega
    try dsimp only
    refine wpAny_bind (listItems_at nk rfl ?_)
    refine by_end (κ := dataKind s'.heap (rs.map kd)) nk na nka (SortsAt.data er al sb fun d hd => ?_) kl iz fun h' st => ?_
    · obtain ⟨r, hr2, rfl⟩ := List.mem_map.mp hd
      have := dp r hr2
      have := hr.un
      show X.A.units + 1 + 1 + _ < _
      omega
    · have ko : KeyedOut false (rs.map kd) its (sortVals (dataKind s'.heap (rs.map kd)) false kA.toList its) := ⟨s'.heap, kA.toList, al, rfl, er⟩
      have eo : EachIs (fun u r => ∃ v, RelV v u ∧ Dt X.K H' v (enc r)) (sortVals (dataKind s'.heap (rs.map kd)) false kA.toList its) (rs.mergeSort (dataLe false kd)) :=
        keyedOut_each kd ko ((each_of_map enc (each_dt I hx rv)).mono fun u r ⟨v, q1, q2⟩ => ⟨v, q1, Dt.ex ex _ _ q2⟩)
      obtain ⟨zs, q1, q2⟩ := of_each (each_map (R := fun u d => ∃ v, RelV v u ∧ Dt X.K H' v d) enc eo)
      have zl : zs.length ≤ sizeLine := by rw [q2.len, List.length_map, List.length_mergeSort, sizeLine_eq]; omega
      have nc : ∀ b, s.heap.objs.size ≤ b → ∀ x c, X.env.cells.lookup x = some c → c ≠ b := fun b hb x c hc => Nat.ne_of_lt (Nat.lt_of_lt_of_le (lc x c hc) hb)
      have np : ∀ b, s.heap.objs.size ≤ b → ∀ p ∈ X.pn ++ pins, p.1 ≠ b := fun b hb p hp => Nat.ne_of_lt (Nat.lt_of_lt_of_le (lo p hp) hb)
      have I2 := I'.land (by omega) (by omega) (nc kS (by omega)) (nc a (by omega)) (np kS (by omega)) (np a (by omega)) st q1 zl
      have nH' : H' a = none := (I'.pin (a, seqObj "list" #[] e1) (List.mem_append_right _ (List.mem_cons_of_mem _ List.mem_cons_self))).2.1
      have e3 : Ex H' (upd H' a (.lst zs)) := Ex.new nH'
      refine ⟨rfl, .ref a, upd H' a (.lst zs), I2, rfl, fin a zs _ (ex.trans e3) (fresh a (by omega)).1 upd_same (DtA.ex e3 _ _ q2)⟩
end
end NB
end S_NbK6

section S_NbK7
set_option Elab.async false
set_option linter.all false
set_option maxRecDepth 100000
set_option maxHeartbeats 4000000
namespace NB
open PySem PySem.Spec PyProof.Rows L2 PySem.W
open Evl (Ex)

/-! ### sorted(xs, key=lambda ..) -/
def tSortBy (K : PySem.W.Frag) {α : Type} (enc kd : α → PyData) (tb : TE) (N : List Str) (q : Str) (T : Addr) (ta : TA) : TE := fun σ H Q => ta σ H fun vs H1 => ∃ (l : Addr) (xs : List V) (rs : List α), vs = [.ref l] ∧ H1 l = some (.lst xs) ∧ DtA K H1 xs (rs.map enc) ∧ imA (rs.map enc) = true ∧ rs.length ≤ 1000 ∧ AllAlike (rs.map kd) ∧ Sortable (rs.map kd) ∧ (∀ r ∈ rs, (kd r).depth ≤ 16) ∧
  (∀ r ∈ rs, ∃ ks, kd r = .list ks ∧ VN K tb (enter N [enc r]) ks) ∧ LamX.TabS H1 T q ∧ ∀ H2, (∀ b o, b ≠ T → H1 b = some o → H2 b = some o) → LamX.TabS H2 T q → ∀ (p : Addr) (ys : List V) (H3 : Hp), Ex H2 H3 → H2 p = none → H3 p = some (.lst ys) → DtA K H3 ys ((rs.mergeSort (dataLe false kd)).map enc) → Q (.ref p) H3
theorem pe_sortBy {α : Type} {enc kd : α → PyData} {X : Cx} {e : Expr} {ta : TA} {tb : TE} {params : Arguments} {body : Expr} {scope : Scope} {N : List Str} {a1 : Str} {k : Nat} {c T : Addr} {p pos kp lpos : Pos} (hg : Gl X "sorted") (hm : X.mg "sorted" = none) (TB : LamX.TabB X.base X.mg c T) (hc : X.env.code = .ref c) (hr : Room (k + 3) X.A) (S : NdefX.NScope N [a1] [] scope)
    (hcl : cloFrom X.env.cells scope.names [] = []) (hdef : defaultsOf params X.env = ([], [])) (hfree : ∀ y ∈ scope.names, y.2 ≠ .free) (hb : ∀ (q : Str) (cl : List (Str × Addr)) (u pm cv ctv : Value), bindArgs (PySem.W.kla_fn "<lambda>" q params body scope cl pm cv ctv) ⟨[u], []⟩ = pure [(a1, u)])
    (hbody : ∀ (f c' : Addr) (A : Around) (outer : List Env) (s : Shared) (H : Hp), Room k (A.deeper (NdefX.envF (LmW.nf ⟨X.env.qual ++ "<lambda>", params, body, scope, cloFrom X.env.cells scope.names [], c'⟩) f s.heap.objs.size)) → PE (NdefX.ncx C8.CX0 X.prog X.w X.K X.mg X.base N (LmW.nf ⟨X.env.qual ++ "<lambda>", params, body, scope, cloFrom X.env.cells scope.names [], c'⟩) f A outer s H C8.E0) body tb)
    (ha : PA X [e] ta) (na : backTo pos (starEach [e] X.env) = (false, eval e X.env) :: backTo pos (starEach [] X.env)) (hpl : (backTo pos (starEach [e] X.env)).any (·.1) = false) :
    PE X (.Call (.Name "sorted" p) [e] [⟨some "key", .Lambda params body scope lpos, kp⟩] pos) (tSortBy X.K enc kd tb N (X.env.qual ++ "<lambda>") T ta) := by
  refine ⟨fun pins s σ H Q I h => ?_⟩
  refine wpAny_Call_Name_kw (ld_blt I hg hm PyProof.Rows.boot_sorted ?_)
  have hk : PK X [⟨some "key", .Lambda params body scope lpos, kp⟩] (tCons (tLm T (X.env.qual ++ "<lambda>") fun c' => ⟨X.env.qual ++ "<lambda>", params, body, scope, cloFrom X.env.cells scope.names [], c'⟩) tNil) := pk_cons (pe_lm TB hc hdef hfree) pk_nil
  refine PyProof.Rows.callWith_kw (thn (ha.run pos pins s σ H _ I h) fun us s1 ⟨vs, H1, I1, r1, l, xs, rs, e1, hl, hx, im, ln, al, sb, dp, ht, hT, q⟩ => ?_) na hpl (by rfl) (by rfl)
  · subst e1
    obtain rfl := Vals.ref1 r1
    refine thn (hk.run pos pins s1 σ H1 (fun zs H2 => ∃ f c', zs = [.ref f] ∧ (∀ b o, b ≠ T → H1 b = some o → H2 b = some o) ∧ LamX.TabS H2 T (X.env.qual ++ "<lambda>") ∧ H2 f = some (LamO f ⟨X.env.qual ++ "<lambda>", params, body, scope, cloFrom X.env.cells scope.names [], c'⟩) ∧ H2 c' = some (LamX.CodeO c' (X.env.qual ++ "<lambda>"))) I1 ⟨hT, fun f c' H2 xt T2 f0 f1 c1 => ⟨f, c', rfl, xt, T2, f1, c1⟩⟩) fun ws s2 ⟨zs, H2, I2, r2, f, c', e3, xt, T2, f1, c1⟩ => ?_
    subst e3
    obtain ⟨w1, rfl, rw1⟩ := vals1 r2
    obtain rfl : w1 = Value.ref f := rw1
    have lT : l ≠ T := fun z => by
      obtain ⟨ps, hP, _⟩ := hT
      rw [z, hP] at hl; cases hl
    have tk : Tk H1 H2 := fun b o n e => xt b o (fun z => by
      obtain ⟨ps, hP, _⟩ := hT
      rw [z, hP] at e
      cases e
      exact n trivial) e
    exact sort_by (enc := enc) (kd := kd) I2 (xt l _ lT hl) (DtA.tk tk _ _ im hx) hr S hcl (fun u pm ctv => hb _ _ u pm _ ctv) f1 c1 (fun A outer s H hr' => hbody f c' A outer s H hr') ht al sb dp ln fun p ys H3 e3 n p3 d3 => q H2 xt T2 p ys H3 e3 n p3 d3
end NB
end S_NbK7

section S_NbK8
set_option Elab.async false
set_option linter.all false
set_option maxRecDepth 100000
set_option maxHeartbeats 4000000
namespace NB
open PySem PySem.Spec PyProof.Rows L2 PySem.W

/-! ### list(d.values()) -/
theorem accv_eq {es : Array DictEntry} {xs : List (NestedKey × Addr × Value)} {P : Program} {w : World} {acc : Array Value} (he : es.toList = xs.map (entryOfKey (nestedKind P w))) (h : ItemsOf (fun i v => ∃ hi : i < es.size, v = es[i].val) acc es.size) : acc.toList = xs.map fun x => x.2.2 := by
  have hz : es.size = xs.length := size_of_entries he
  apply List.ext_getElem?
  intro i
  by_cases hi : i < xs.length
  · have h1 : i < acc.size := by rw [h.1, hz]; exact hi
    obtain ⟨h2, e⟩ := h.2 i acc[i] (Array.getElem?_eq_getElem h1)
    have e1 := entry_at he i
    rw [Array.getElem?_eq_getElem h2, List.getElem?_eq_getElem hi] at e1
    have e2 : es[i] = entryOfKey (nestedKind P w) xs[i] := Option.some.inj e1
    rw [Array.getElem?_toList, Array.getElem?_eq_getElem h1, List.getElem?_map, List.getElem?_eq_getElem hi, e, e2]
    rfl
  · rw [Array.getElem?_toList, List.getElem?_map, List.getElem?_eq_none (by omega), Array.getElem?_eq_none (by rw [h.1, hz]; omega)]
    rfl
theorem vals_of_rel {K : PySem.W.Frag} {H : Hp} {κ : Type} {enc : κ → PyData} : ∀ {kvs : List (κ × V)} {xs : List (NestedKey × Addr × Value)}, Paired (DcR K H enc) kvs xs → Vals (kvs.map (·.2)) (xs.map fun x => x.2.2)
  | _, _, .nil => .nil
  | _, _, .cons r t => .cons r.val (vals_of_rel t)
def tListVals (P : Program) (w : World) (K : PySem.W.Frag) {κ : Type} (enc : κ → PyData) (to : TE) : TE := fun σ H Q => to σ H fun v H1 => ∃ (a : Addr) (kvs : List (κ × V)), v = .ref a ∧ DcAt P w K enc H1 a kvs ∧ ∀ p, H1 p = none → Q (.ref p) (upd H1 p (.lst (kvs.map (·.2))))
theorem pe_listVals {X : Cx} {P : Program} {w : World} {K : PySem.W.Frag} {κ : Type} [DecidableEq κ] {enc : κ → PyData} {o : Expr} {to : TE} {p pos apos cpos : Pos} (hP : X.prog = P) (hw : X.w = w) (hK : X.K = K) (E : KeyE enc) (hc : X.calm = true) (hg : Gl X "list") (hm : X.mg "list" = none) (ho : PE X o to)
    (hbase : attributeBase o "values" X.env (eval o X.env) = eval o X.env := by rfl) (hline : (apos.endLine == cpos.line) = true := by rfl) (na : starEach [.Call (.Attribute o "values" apos) [] [] cpos] X.env = (false, eval (.Call (.Attribute o "values" apos) [] [] cpos) X.env) :: starEach [] X.env := by rfl) :
    PE X (.Call (.Name "list" p) [.Call (.Attribute o "values" apos) [] [] cpos] [] pos) (tListVals P w K enc to) := by
  subst hP hw hK
  refine ⟨fun pins s σ H Q I h => ?_⟩
  refine Call_ (ld_blt I hg hm PyProof.Rows.boot_list ?_)
  refine PyProof.Rows.callWith_type1 (PyProof.Rows.args_cons ?_ na) na rfl
  refine wpAny_Call_method (T := "dict") (id := "dict.values") hbase rfl hline F.plainAttrs_dict F.slot_dict_values F.type_dict_values (thn (ho.run pins s σ H _ I h) fun u s1 ⟨x, H1, I1, rx, a, kvs, ex, ⟨xs, h1, h2⟩, q⟩ => ?_)
  subst ex
  obtain rfl : u = Value.ref a := rx
  obtain ⟨dm, z1, z2⟩ := dc_full E I1 h1 h2
  obtain ⟨ob, es, ep, g1, g2, g3, g4, g5, g6⟩ := id dm
  have hr : s1.heap.DictRaw a es ep := ⟨ob, g1, g2, g3⟩
  refine ⟨dm.typeIs, fun b hb => (by cases hb; exact ⟨ob, g1, g2.2.1⟩), ?_⟩
  have I2 : Inv X pins σ H1 { s1 with heap := s1.heap.push { cls := .type "dict_values", data := .fields #[.ref a] } } := I1.kept (t' := s1.toks) fun b ob q => Heap.get?_push_of_some _ q
  show wpAny _ _ (callWith cpos (.builtin "dict.values") [.ref a] [] []) _ X.xe s1
  refine method_meetsIn F.slot_dict_values F.entry_dict_values rfl (PySem.evalArgs_none ⟨rfl, dm.typeIs, F.args_dict_values_1 _, _, PySem.meets_dict_values_raw a z2, ⟨es, ep, hr⟩, ?_⟩)
  refine PyProof.Rows.args_nil ?_
  have lt : a < s1.heap.objs.size := Heap.lt_size g1
  refine PySem.W.kdl_call (PySem.KdlSrc.rawValues (r := s1.heap.objs.size) (d := a) (es := es) (ep := ep)) (I2.ok.hd hc) ⟨⟨_, Heap.get?_push_size _ rfl, rfl, rfl⟩, ob, Heap.get?_push_of_some _ g1, g2, g3⟩ (by rw [size_of_entries g4]; exact z1) fun h' tk acc c' hk hD hacc => ?_
  have ea := accv_eq g4 hacc
  refine ⟨.ref _, _, I2.laid (o := .lst (kvs.map (·.2))) (t' := tk) hk (Nat.le_refl _) ⟨by rw [List.length_map, rel_len h2]; exact z1, acc.toList, c', by rw [ea]; exact vals_of_rel h2, by rw [Array.toArray_toList]; exact hD⟩, rfl, q _ (I2.hok.fresh (Nat.le_refl _))⟩
end NB
end S_NbK8

section S_NbK9
set_option Elab.async false
set_option linter.all false
set_option maxRecDepth 100000
set_option maxHeartbeats 4000000
set_option exponentiation.threshold 100000
namespace NB
open PySem PySem.Spec PyProof.Rows L2 PySem.W
open Evl (Ex)

/-! ### the table, apart from a dict too -/
def As.tab2 (T : Addr) (q : Str) (U a : Addr) : As := ⟨fun H => T ≠ U ∧ T ≠ a ∧ ∃ ps : Array Value, H T = some (.tbl ps) ∧ TriplesOk ps.toList ∧ ∀ (pos : Pos) (cv : Value), codeAmong pos ps.toList = some cv → ∃ c, cv = .ref c ∧ c ≠ U ∧ c ≠ a ∧ H c = some (LamX.CodeO c q),
  fun H H' e ⟨n, n2, ps, h1, h2, h3⟩ => ⟨n, n2, ps, e _ _ h1, h2, fun pos cv hc => by
    obtain ⟨c, e1, e2, e4, e3⟩ := h3 pos cv hc
    exact ⟨c, e1, e2, e4, e _ _ e3⟩⟩⟩
theorem As.off_tab2 {T U a : Addr} {q : Str} : (As.tab2 T q U a).Off U := fun H H' k t ⟨n, n2, ps, h1, h2, h3⟩ => ⟨n, n2, ps, (k T n).trans h1, h2, fun pos cv hc => by
  obtain ⟨c, e1, e2, e4, e3⟩ := h3 pos cv hc
  exact ⟨c, e1, e2, e4, (k c e2).trans e3⟩⟩
theorem As.off_tab2a {T U a : Addr} {q : Str} : (As.tab2 T q U a).Off a := fun H H' k t ⟨n, n2, ps, h1, h2, h3⟩ => ⟨n, n2, ps, (k T n2).trans h1, h2, fun pos cv hc => by
  obtain ⟨c, e1, e2, e4, e3⟩ := h3 pos cv hc
  exact ⟨c, e1, e2, e4, (k c e4).trans e3⟩⟩
theorem As.tab2_tab {T U a : Addr} {q : Str} {H : Hp} : (As.tab2 T q U a).p H → (As.tab T q U).p H := fun ⟨n, n2, ps, h1, h2, h3⟩ => ⟨n, ps, h1, h2, fun pos cv hc => by
  obtain ⟨c, e1, e2, e4, e3⟩ := h3 pos cv hc
  exact ⟨c, e1, e2, e3⟩⟩
theorem As.tab_tab2 {T U a : Addr} {q : Str} {H : Hp} (n : H a = none) : (As.tab T q U).p H → (As.tab2 T q U a).p H := fun ⟨nU, ps, h1, h2, h3⟩ => ⟨nU, ne_of_none h1 n, ps, h1, h2, fun pos cv hc => by
  obtain ⟨c, e1, e2, e3⟩ := h3 pos cv hc
  exact ⟨c, e1, e2, ne_of_none e3 n, e3⟩⟩
section
variable {P : Program} {w : World} {K : PySem.W.Frag} {κ ν : Type} {enc : κ → PyData} {E : KeyE enc} {encv : ν → PyData} {l : List (κ × ν)} {O : List Addr} {F F0 G : As} {env env' : List Sl} {t u : TS} {te tk : TE} {r r' : Rs} {d : PyData} {a : Addr} {i : Nat} {Pd : PyData → Prop}
/-- a new dict; what stood before may be told anew, the place being new -/
theorem vs_newDx {F' : Addr → As} (hF : ∀ H p, H p = none → F.p H → (F' p).p H) (hr : ∀ a, a ∉ O → ∃ r', RsNew K a r' r ∧ VS K (a :: O) ((F' a).and (.dc P w K enc E encv a ([] : List (κ × ν)))) u (env.set i (.v (.ref a))) r') : VS K O F (tSeq (tAsg (tDcNew P w K enc) (gName i)) u) env r := fun D σ H z q p H' hp hk hd => by
  obtain ⟨r', l, hu⟩ := hr p (z.fresh hp)
  have e2 : Ex H H' := fun b o h => by rw [hk b (ne_of_none h hp)]; exact h
  have x2 : Ex (Bs H O) (Bs H' (p :: O)) := Bs_in ((Bs_sub H O).trans e2) fun b mb => by
    rcases List.mem_cons.mp mb with w | w
    · subst w
      cases q : Bs H O b with
      | none => rfl
      | some u => rw [Bs_sub H O b u q] at hp; cases hp
    · exact Bs_none w
  refine hu D _ H' ⟨fun b mb => ?_, (z.sg.ex x2).setV i, As.ex_ e2 (hF H p hp z.as), [], hd, .nil⟩ (Rs.ok_less hp (z.fresh hp) e2 l q)
  rcases List.mem_cons.mp mb with w | w
  · subst w; exact hd.mut
  · exact (z.ex e2).own b w
variable [DecidableEq κ]
/-- d[k] = e, e draws -/
theorem vs_dsetE {k : κ} {J : ν → Prop} {FF : ν → As} (hi : env[i]? = some (.v (.ref a))) (h : VE K (a :: O) F0 te env Pd (G.and (.dc P w K enc E encv a l))) (hP : ∀ d, Pd d → ∃ x, d = encv x ∧ J x) (mv : ∀ x, im (encv x) = true) (hk : VD K tk (env.set i (.dc P w K enc E encv l)) (enc k)) (hg : G.Off a) (hl : l.length < 100000)
    (hFF : ∀ x H, (G.and (.dc P w K enc E encv a (put l k x))).p H → (FF x).p H) : VSC K (a :: O) F0 (tAsg te (gSub (tVar i) tk (rSetC P w K enc))) env J (fun _ => env) FF := fun D σ H z q =>
  h σ H z _ fun v d H2 pd x2 z2 dv0 => by
    obtain ⟨x, rfl, jx⟩ := hP d pd
    have dv : Dt K H2 v (encv x) := Dt.ex (Bs_sub _ _) _ _ dv0
    have s := Sg.view z2 hi
    refine ⟨_, z2.sg.getV hi, hk σ H2 s H2 (Ex.refl _) _ fun y H3 e3 dy => ?_⟩
    have z3 := z2.ex e3
    obtain ⟨g3, kvs, d1, d2⟩ := z3.as
    refine ⟨a, kvs, k, rfl, d1, dy, ?_, fun H4 k4 d4 => ?_⟩
    · have := congrArg List.length d2.keys
      rw [List.length_map, List.length_map] at this
      rw [this]; exact Nat.lt_trans hl (by decide)
    · obtain ⟨o4, h4, m4⟩ := d1.mut
      have t4 : Tk H3 H4 := Tk.at h4 m4 k4
      have xo : XO (a :: O) H3 H4 := XO.mut List.mem_cons_self k4
      refine q x σ H4 jx ((x2.trans (XO.of e3)).trans xo) ⟨fun b mb => ?_, z3.sg.ex xo, hFF x H4 ⟨hg _ _ k4 t4 g3, _, d4, (d2.tk mv t4).put (Dt.tk t4 _ _ (mv x) (Dt.ex e3 _ _ dv))⟩⟩
      by_cases e : b = a
      · subst e; exact d4.mut
      · rw [k4 b e]; exact z3.own b mb
end
theorem DV.vals {K : PySem.W.Frag} {H : Hp} {κ ν : Type} {encv : ν → PyData} {kvs : List (κ × V)} {l : List (κ × ν)} (h : DV K H encv kvs l) : DtA K H (kvs.map (·.2)) (l.map fun q => encv q.2) := by
  induction h with
  | nil => exact .nil
  | cons a _ ih => exact .cons a ih
/-- list(d.values()), the dict only read -/
theorem vn_listVals {P : Program} {w : World} {K : PySem.W.Frag} {κ ν : Type} {enc : κ → PyData} {E : KeyE enc} {encv : ν → PyData} {l : List (κ × ν)} {env : List Sl} {i : Nat} (hi : env[i]? = some (.dc P w K enc E encv l)) : VN K (tListVals P w K enc (tVar i)) env (l.map fun q => encv q.2) := fun σ B s H1 e Q q => by
  obtain ⟨v, h1, b, rfl, hd⟩ := s.getO hi
  obtain ⟨kvs, d1, d2⟩ := hd.ex E e
  exact ⟨_, h1, b, kvs, rfl, d1, fun p hp => q p _ _ hp (Ex.new hp) upd_same (DtA.ex (Ex.new hp) _ _ d2.vals)⟩
section
variable {K : PySem.W.Frag} {α : Type} {enc kd : α → PyData} {O : List Addr} {G : As} {env : List Sl} {te tb : TE} {N : List Str} {q : Str} {T U : Addr} {m : Nat} {rs : List α}
theorem ve_sortBy (hT : T ∈ O) (hU : U ∈ O) (hGT : G.Off T) (h : VN K te env (rs.map enc)) (ie : ∀ x, im (enc x) = true) (len : rs.length ≤ 1000) (al : AllAlike (rs.map kd)) (sb : Sortable (rs.map kd)) (dp : ∀ r ∈ rs, (kd r).depth ≤ 16) (ht : ∀ r ∈ rs, ∃ ks, kd r = .list ks ∧ VN K tb (enter N [enc r]) ks) :
    VE K O ((G.and (.tab T q U)).and (.urn K U m)) (tSortBy K enc kd tb N q T (tCons te tNil)) env (· = .list ((rs.mergeSort (dataLe false kd)).map enc)) ((G.and (.tab T q U)).and (.urn K U m)) := fun σ H z Q k =>
  h σ H z.s H (Ex.refl _) _ fun p xs H1 hp e1 hx hd => by
    have z1 := z.ex e1
    obtain ⟨⟨gg, nTU, ps, hP, ht1, hc1⟩, ua, ub, uc, u0, u1, us, hu, du⟩ := z1.as
    refine ⟨p, xs, rs, rfl, hx, hd, imA_map _ ie _, len, al, sb, dp, ht, ⟨ps, hP, ht1, fun pos cv hc => by
      obtain ⟨c, e1, _, e3⟩ := hc1 pos cv hc
      exact ⟨c, e1, e3⟩⟩, fun H2 xt ⟨ps2, hP2, ht2, hc2⟩ p2 ys H3 e3 n3 g3 d3 => ?_⟩
    have keep : ∀ b o, b ≠ T → H1 b = some o → H3 b = some o := fun b o n hb => e3 _ _ (xt b o n hb)
    have nT : ∀ b, b ∉ O → b ≠ T := fun b nb e => nb (e ▸ hT)
    have xo : XO O H1 H3 := XO.by_ fun b o nb hb => keep b o (nT b nb) hb
    have hP3 := e3 _ _ hP2
    obtain ⟨oT, hoT, moT⟩ := z1.own T hT
    have tk : Tk H1 H3 := fun b o nm hb => keep b o (fun e => by
      rw [e, hP] at hb
      cases hb
      exact nm trivial) hb
    have g2 := hGT H1 (upd H1 T (.tbl ps2)) (fun b nb => upd_ne nb) (Tk.mut hoT moT) gg
    have g3' : G.p H3 := G.st _ _ (fun b o hb => by
      by_cases e : b = T
      · rw [e, upd_same] at hb
        rw [e, ← hb]; exact hP3
      · rw [upd_ne e] at hb
        exact keep b o e hb) g2
    have z3 : Zs K O ((G.and (.tab T q U)).and (.urn K U m)) env σ H3 := ⟨fun b mb => by
      by_cases e : b = T
      · rw [e]; exact ⟨_, hP3, trivial⟩
      · obtain ⟨o, ho, mo⟩ := z1.own b mb
        exact ⟨o, keep b o e ho, mo⟩, z1.sg.ex xo, ⟨g3', nTU, ps2, hP3, ht2, fun pos cv hc => by
      obtain ⟨c, q1, q2⟩ := hc2 pos cv hc
      refine ⟨c, q1, fun e => ?_, e3 _ _ q2⟩
      have := xt U _ (fun z => nTU z.symm) hu
      rw [e, this] at q2
      unfold LamX.CodeO at q2
      cases q2⟩, ua, ub, uc, u0, u1, us, keep U _ (fun z => nTU z.symm) hu, DtA.tk tk _ _ rfl du⟩
    refine k _ _ H3 rfl ((XO.of e1).trans xo) z3 (.lst ?_ (DtA.tk z3.tkB _ _ (imA_map _ ie _) d3))
    rw [Bs_out]
    · exact g3
    · intro mb
      by_cases e : p2 = T
      · rw [e, hP2] at n3; cases n3
      · obtain ⟨o, ho, _⟩ := z1.own p2 mb
        rw [xt _ _ e ho] at n3; cases n3
end

/-! ### the key of a row -/
def kdR (r : List Rat) : PyData := .list (r.map fun q => .int (2 * q.num / ((q.den : Nat) : Int)))
theorem al_kdR (x y : List Rat) : alike (kdR x) (kdR y) = true := by
  unfold kdR; rw [alike]; exact alikeAll_map (fun _ _ => by rw [alike]) x y
theorem dp_kdR (x : List Rat) : (kdR x).depth ≤ 1 := by
  unfold kdR
  exact dep_lst (mem_map_all fun q _ => by simp [PyData.depth])
theorem sb_kdR (rs : List (List Rat)) : Sortable (rs.map kdR) := Sortable.others fun r => ⟨fun e => (by unfold kdR at e; cases e), fun xs e => (by unfold kdR at e; cases e)⟩

/-! ### what is drawn -/
structure LoOk (n i : Nat) (l : List (List Rat × Nat)) : Prop where
  len : l.length ≤ i
  pos : 0 < i → 0 < l.length
  row : ∀ x ∈ l, x.1.length = n ∧ ∀ q ∈ x.1, q ∈ fives
  val : ∀ x ∈ l, 1 ≤ x.2 ∧ x.2 ≤ 3
  nod : (l.map (·.1)).Nodup
theorem LoOk.zero {n : Nat} : LoOk n 0 [] := ⟨Nat.le_refl _, fun h => absurd h (Nat.lt_irrefl _), fun x h => (by cases h), fun x h => (by cases h), List.nodup_nil⟩
theorem mem_put2 {κ ν : Type} [DecidableEq κ] {k : κ} {v : ν} {p : κ × ν} : ∀ {l : List (κ × ν)}, p ∈ put l k v → p ∈ l ∨ p = (k, v)
  | [], h => .inr (List.mem_singleton.mp h)
  | (a, u) :: l, h => by
    by_cases e : a = k
    · rw [put_eq e] at h
      rcases List.mem_cons.mp h with h | h
      · exact .inr (by rw [h, e])
      · exact .inl (List.mem_cons_of_mem _ h)
    · rw [put_ne e] at h
      rcases List.mem_cons.mp h with h | h
      · exact .inl (by rw [h]; exact List.mem_cons_self)
      · exact (mem_put2 h).imp (List.mem_cons_of_mem _) id
theorem put_pos {κ ν : Type} [DecidableEq κ] (l : List (κ × ν)) (k : κ) (v : ν) : 0 < (put l k v).length := by
  cases l with
  | nil => exact Nat.zero_lt_one
  | cons p l =>
    obtain ⟨a, u⟩ := p
    by_cases e : a = k
    · rw [put_eq e]; exact Nat.succ_pos _
    · rw [put_ne e]; exact Nat.succ_pos _
theorem LoOk.put {n i v : Nat} {l : List (List Rat × Nat)} {r : List Rat} (h : LoOk n i l) (hr : r.length = n ∧ ∀ q ∈ r, q ∈ fives) (hv : 1 ≤ v ∧ v ≤ 3) : LoOk n (i + 1) (put l r v) :=
  ⟨Nat.le_trans (len_put l r v) (Nat.succ_le_succ h.len), fun _ => put_pos l r v, fun x hx => (mem_put2 hx).elim (h.row x) fun e => by rw [e]; exact hr, fun x hx => (mem_put2 hx).elim (h.val x) fun e => by rw [e]; exact hv, nodup_put h.nod r v⟩
def lsum (l : List (List Rat × Nat)) : Nat := (l.map (·.2)).sum
def sprO (l : List (List Rat × Nat)) : Spr := ((l.map (·.1)).mergeSort (dataLe false kdR)).map fun r => (r, Rat.divInt ((lk l r).getD 0 : Nat) (lsum l : Nat))
theorem sum_perm {a b : List Rat} (h : a.Perm b) : a.sum = b.sum := by
  induction h with
  | nil => rfl
  | cons x _ ih => rw [List.sum_cons, List.sum_cons, ih]
  | swap x y l => rw [List.sum_cons, List.sum_cons, List.sum_cons, List.sum_cons]; grind
  | trans _ _ i1 i2 => exact i1.trans i2
theorem keys_lkN {β : Type} (h : List Rat → Nat → β) : ∀ l : List (List Rat × Nat), (l.map (·.1)).Nodup → (l.map (·.1)).map (fun k => h k ((lk l k).getD 0)) = l.map fun x => h x.1 x.2
  | [], _ => rfl
  | (a, u) :: l, n => by
    rw [List.map_cons, List.nodup_cons] at n
    have ih := keys_lkN h l n.2
    rw [List.map_cons, List.map_cons, List.map_cons]
    congr 1
    · show h a ((lk ((a, u) :: l) a).getD 0) = _
      rw [lk_eq rfl]; rfl
    · refine Eq.trans (List.map_congr_left fun k hk => ?_) ih
      have ne : a ≠ k := fun q => n.1 (by rw [q]; exact hk)
      show h k ((lk ((a, u) :: l) k).getD 0) = _
      rw [lk_ne ne]
theorem div_sum (t : Int) (ht : t ≠ 0) : ∀ l : List Nat, (l.map fun v => Rat.divInt (v : Nat) t).sum = Rat.divInt (l.sum : Nat) t
  | [] => by rw [List.map_nil, List.sum_nil, List.sum_nil]; simp
  | v :: l => by
    rw [List.map_cons, List.sum_cons, List.sum_cons, div_sum t ht l, Rat.divInt_add_divInt _ _ ht ht]
    rw [Rat.divInt_eq_divInt_iff (Int.mul_ne_zero ht ht) ht]
    push_cast
    grind
theorem lsum_le {n i : Nat} {l : List (List Rat × Nat)} (h : LoOk n i l) : l.length ≤ lsum l ∧ lsum l ≤ 3 * l.length := by
  have : ∀ l : List (List Rat × Nat), (∀ x ∈ l, 1 ≤ x.2 ∧ x.2 ≤ 3) → l.length ≤ (l.map (·.2)).sum ∧ (l.map (·.2)).sum ≤ 3 * l.length := by
    intro l
    induction l with
    | nil => intro _; exact ⟨Nat.le_refl _, Nat.le_refl _⟩
    | cons x l ih =>
      intro h
      have h1 := h x List.mem_cons_self
      have h2 := ih fun y hy => h y (List.mem_cons_of_mem _ hy)
      rw [List.map_cons, List.sum_cons, List.length_cons]
      omega
  exact this l h.val
theorem spr_ok {n i : Nat} {l : List (List Rat × Nat)} (h : LoOk n i l) (i0 : 0 < i) (i3 : i ≤ 3) : SpOk n (sprO l) := by
  have lp := h.pos i0
  have ll := h.len
  have ls := lsum_le h
  have len : (sprO l).length = l.length := by
    unfold sprO
    rw [List.length_map, List.length_mergeSort, List.length_map]
  have tpos : (0 : Int) < (lsum l : Nat) := by omega
  refine ⟨by omega, by omega, fun x hx => ?_, fun x hx => ?_, ?_⟩
  · obtain ⟨r, hr, rfl⟩ := List.mem_map.mp hx
    obtain ⟨y, hy, rfl⟩ := List.mem_map.mp ((List.mergeSort_perm _ _).mem_iff.mp hr)
    exact h.row y hy
  · obtain ⟨r, hr, rfl⟩ := List.mem_map.mp hx
    have hr := (List.mergeSort_perm _ _).mem_iff.mp hr
    obtain ⟨v, hv⟩ := Option.isSome_iff_exists.mp (lk_mem.mpr hr)
    have hv3 := h.val _ (lk_some_mem hv)
    show Bd 4 (Rat.divInt (((lk l r).getD 0 : Nat) : Int) ((lsum l : Nat) : Int))
    rw [hv]
    have hv3 : 1 ≤ v ∧ v ≤ 3 := hv3
    refine ⟨Nat.le_trans (num_le tpos) ?_, Nat.le_trans (den_le tpos) ?_⟩
    · show ((v : Nat) : Int).natAbs ≤ 16
      omega
    · show ((lsum l : Nat) : Int).natAbs ≤ 16
      omega
  · have e1 : (sprO l).map (·.2) = ((l.map (·.1)).mergeSort (dataLe false kdR)).map fun r => Rat.divInt ((lk l r).getD 0 : Nat) (lsum l : Nat) := by
      unfold sprO
      rw [List.map_map]; rfl
    rw [e1, sum_perm ((List.mergeSort_perm _ _).map _), keys_lkN (fun _ v => Rat.divInt ((v : Nat) : Int) ((lsum l : Nat) : Int)) l h.nod]
    rw [show (l.map fun x => Rat.divInt ((x.2 : Nat) : Int) ((lsum l : Nat) : Int)) = (l.map (·.2)).map fun v => Rat.divInt ((v : Nat) : Int) ((lsum l : Nat) : Int) from by rw [List.map_map]; rfl]
    rw [div_sum _ (by omega)]
    show Rat.divInt ((lsum l : Nat) : Int) ((lsum l : Nat) : Int) = 1
    rw [Rat.divInt_self' (by omega)]
end NB
end S_NbK9

section S_NbD19
set_option Elab.async false
set_option linter.all false
set_option maxRecDepth 100000
set_option maxHeartbeats 4000000
set_option exponentiation.threshold 100000
namespace NB
open PySem PySem.Spec PyProof.Rows L2
local macro_rules | `(tactic| walk_at "vd") => `(tactic| repeat' (first
  | exact vd_var rfl | exact vd_int | exact vd_bl | exact va_nil | exact vba_nil | exact vt_yes
  | with_reducible apply va_cons | with_reducible apply vt_test | with_reducible apply vt_not | with_reducible apply vt_B
  | with_reducible apply vd_tup | with_reducible apply vd_cb | with_reducible apply vd_op | with_reducible apply vd_un
  | exact rd_add | exact rd_ix0 rfl | exact rd_ix1 rfl | exact rd_I0 | exact rd_B0 | exact ru_I
  | exact rg_lenT | exact rg_lenL | exact rc_abs | exact rc_gcd
  | exact Nat.le_of_ble_eq_true rfl))
local macro_rules | `(tactic| walk_at "le") => `(tactic| repeat (first | exact Le.nil | apply Le.same | apply Le.drop))
section
variable {P : Program} {w : World} {K : PySem.W.Frag} {mg : Str → Option Value} {base : Heap}

theorem mk_cbC {P : Program} {w : World} {K : PySem.W.Frag} {mg : Str → Option Value} {base : Heap} (W : Wd K mg) (j : Nat) {x : Str} {i k : Nat} {N ps : List Str} {sp : Sp} (hj : fns[j]? = some (mkD x i)) (S : FnScope N ps (defScope (topS i)))
    (hb : ∀ (kV doc pm : Value) (an : Option Addr) (cdv ct : Value) (us : List Value), us.length = ps.length → bindArgs (PySem.W.fnOf x x (defArgs (topS i)) (defBody (topS i)) (defScope (topS i)) .none kV doc pm an cdv ct) ⟨us, []⟩ = pure (ps.zip us)) (len : ∀ vs H Q E, sp vs H Q E → vs.length = ps.length)
    (hbody : ∀ (f : Addr) (A : Around) (outer : List Env) (s : Shared) (H : Hp) (vs : List V) (Q : VK) (E : XK), Room k (A.deeper (envOfC x (defScope (topS i)) s.heap.objs.size f (.ref (He.codeOf K (x, none))))) → sp vs H Q E →
      ∃ t, PSs (cxOf CX0 P w K mg base N x (defScope (topS i)) f (.ref (He.codeOf K (x, none))) A outer s H E) (defBody (topS i)) t ∧ t { nx := fun _ H' => Q .non H', rt := Q } (L2.start N vs) H) : Cb P w K mg base x (k + 1) ps sp := by
  obtain ⟨hm, fd, F⟩ := W.fn j _ hj
  have F' : FunD K x x (defArgs (topS i)) (defBody (topS i)) (defScope (topS i)) [] [] (He.fAd K (x, none)) fd := F
  refine ⟨_, fd, ?_, hm, F'.kp, F'.bindsN hb⟩
  obtain ⟨oc, od, dV, kV, doc, pm, an, cdv, ct, osl, rfl, lk, hcd, _, _⟩ := F'.ex
  obtain ⟨c0, rfl⟩ := He.codeIn_ref hcd
  have e := He.codeOf_eq (p := (x, none)) lk rfl
  refine fn_of lk hcd S len fun A outer s H vs Q E hr h => ?_
  subst e
  exact hbody _ A outer s H vs Q E hr h
theorem nd2 : (["_law_own", "_law_x"] : List Str).Nodup := by decide
def springQ : Str := (("_law_spring" : Str) ++ ".<locals>.") ++ "<lambda>"
theorem mul_small {i j : Int} (h1 : i.natAbs ≤ 2) (h2 : j.natAbs ≤ 2) : CMulW i j := wide_mul (a := 2) (b := 2) (by omega) (by omega) (by omega) (by omega) (by omega)


theorem lsumI (l : List (List Rat × Nat)) : ((lsum l : Nat) : Int) = (l.map fun y => ((y.2 : Nat) : Int)).sum := by
  unfold lsum
  induction l with
  | nil => rfl
  | cons x l ih => rw [List.map_cons, List.sum_cons, List.map_cons, List.sum_cons, ← ih]; omega

theorem sc_law_spring : FnScope ["_law_urn", "_law_wide", "_law_loads", "_law_lap", "_law_row", "_law_column", "_law_total", "_law_rows"] ["_law_urn", "_law_wide"] (defScope (topS 44)) := ⟨rfl, rfl, rfl, by decide +kernel, rfl, by decide +kernel, by decide +kernel⟩
theorem cb_law_spring {T : Addr} (W : Wd K mg) (c__law_take : Cb P w K mg base "_law_take" 1 ["_law_urn", "_law_low_here"] (spU K 1 PtakU)) (c__law_of : Cb P w K mg base "_law_of" 2 ["_law_urn", "_law_some"] (spU K 1 PofU)) (c__law_low : Cb P w K mg base "_law_low" 1 ["_law_high", "_law_low_here"] (spD K PfracD)) (TB : LamX.TabB base mg (He.codeOf K ("_law_spring", none)) T) : Cb P w K mg base "_law_spring" 6 ["_law_urn", "_law_wide"] (spT K T springQ 12 PsprU) := by
  refine mk_cbC W 32 (i := 44) rfl sc_law_spring (fun _ _ _ _ _ _ us hl => match us, hl with | [_, _], _ => rfl) (fun vs H Q E h => ?_) fun f A outer s H vs Q E hr h => ⟨_, PSs.nox (
    (pss_cons (ps_set (i := 2) sc_law_spring.nd rfl (by first | exact Or.inl rfl | exact Or.inr rfl) (pe_dcX (P := P) (w := w) (K := K) rfl rfl rfl (enc := encR)))
  (pss_cons (ps_for PassesOwn.never rfl (pi_range1 rfl (W.free "range") (pa_cons (pe_op (op_addX (K := K) rfl) pe_int (pe_cb c__law_take (hr.mono (by omega)) rfl (pa_cons (pv 0) (pa_cons pe_int pa_nil)))) pa_nil)) (pg_name (i := 3) sc_law_spring.nd rfl (by first | exact Or.inl rfl | exact Or.inr rfl)) (pss_cons (ps_set (i := 4) sc_law_spring.nd rfl (by first | exact Or.inl rfl | exact Or.inr rfl) (pe_callTy (cr_tupX (K := K) rfl) (by rfl) (W.free "tuple") (by decide +kernel) (pa_cons (pe_lc (own := [("_law_column", 5)]) rfl sc_law_spring.nd (pi_range1 rfl (W.free "range") (pa_cons (pv 1) pa_nil)) (blkOk_by (N := ["_law_urn", "_law_wide", "_law_loads", "_law_lap", "_law_row", "_law_column", "_law_total", "_law_rows"]) (sc := defScope (topS 44)) (by decide +kernel)) (fun _ _ _ _ _ => (pg_name (i := 5) sc_law_spring.nd rfl (by first | exact Or.inl rfl | exact Or.inr rfl))) (fun _ _ _ _ _ => pts_nil) (fun _ _ _ _ _ => (pe_cb c__law_of (hr.mono (by omega)) rfl (pa_cons (pv 0) (pa_cons (pe_lst (pa_cons (pe_tup (pa_cons pe_int (pa_cons pe_int pa_nil))) (pa_cons (pe_tup (pa_cons pe_int (pa_cons pe_int pa_nil))) (pa_cons (pe_tup (pa_cons (pe_un un_neg pe_int) (pa_cons pe_int pa_nil))) (pa_cons (pe_tup (pa_cons pe_int (pa_cons pe_int pa_nil))) (pa_cons (pe_tup (pa_cons pe_int (pa_cons pe_int pa_nil))) pa_nil)))))) pa_nil))))) pa_nil)))
  (pss_one (ps_asg (pe_op (op_addX (K := K) rfl) pe_int (pe_cb c__law_take (hr.mono (by omega)) rfl (pa_cons (pv 0) (pa_cons pe_int pa_nil)))) (pg_sub (pv 2) (pv 4) (set_dcX (P := P) (w := w) (K := K) rfl rfl rfl kR hr.units))))))
  (pss_cons (ps_asg (pe_tup (pa_cons (pe_callB (cr_sumX (K := K) rfl rfl) (by rfl) (W.free "sum") (by decide +kernel) (pa_cons (pe_listVals (P := P) (w := w) (K := K) rfl rfl rfl kR rfl (by rfl) (W.free "list") (pv 2)) pa_nil)) (pa_cons (pe_sortBy (enc := encR) (kd := kdR) (N := ["_law_own", "_law_x"]) (a1 := "_law_own") (k := 0) (c := He.codeOf K ("_law_spring", none)) (T := T) (by rfl) (W.free "sorted") TB rfl (hr.mono (by omega)) (NdefX.nscope_by (by decide +kernel)) rfl rfl (by decide +kernel) (fun _ _ _ _ _ _ => rfl) (fun _ _ _ _ _ _ _ => (pe_lc (own := [("_law_x", 1)]) rfl nd2 (pi_seqX (K := K) rfl (pv 0)) (blkOk_by (by rfl)) (fun _ _ _ _ _ => (pg_name (i := 1) nd2 rfl (by first | exact Or.inl rfl | exact Or.inr rfl))) (fun _ _ _ _ _ => pts_nil) (fun _ _ _ _ _ => (pe_op op_fdivW (pe_op (op_mulX (K := K) rfl) pe_int (pe_ix (ix_seqX (K := K) rfl) (pv 1) pe_int (fun _ _ => rfl))) (pe_ix (ix_seqX (K := K) rfl) (pv 1) pe_int (fun _ _ => rfl)))))) (pa_cons (pe_callTy (cr_listCX (P := P) (w := w) (K := K) rfl rfl rfl kR rfl) (by rfl) (W.free "list") (by decide +kernel) (pa_cons (pv 2) pa_nil)) pa_nil) (by rfl) (by rfl)) pa_nil))) (pg_tupX (n := 2) (K := K) rfl rfl (pgs_cons (pg_name (i := 6) sc_law_spring.nd rfl (by first | exact Or.inl rfl | exact Or.inr rfl)) (pgs_cons (pg_name (i := 7) sc_law_spring.nd rfl (by first | exact Or.inl rfl | exact Or.inr rfl)) pgs_nil))))
  (pss_one (ps_ret (pe_callTy (cr_tupX (K := K) rfl) (by rfl) (W.free "tuple") (by decide +kernel) (pa_cons (pe_lc (own := [("_law_row", 4)]) rfl sc_law_spring.nd (pi_seqX (K := K) rfl (pv 7)) (blkOk_by (N := ["_law_urn", "_law_wide", "_law_loads", "_law_lap", "_law_row", "_law_column", "_law_total", "_law_rows"]) (sc := defScope (topS 44)) (by decide +kernel)) (fun _ _ _ _ _ => (pg_name (i := 4) sc_law_spring.nd rfl (by first | exact Or.inl rfl | exact Or.inr rfl))) (fun _ _ _ _ _ => pts_nil) (fun _ _ _ _ _ => (pe_tup (pa_cons (pv 4) (pa_cons (pe_cb c__law_low (hr.mono (by omega)) rfl (pa_cons (pe_ix (ix_dcX (P := P) (w := w) (K := K) rfl rfl rfl kR hr.units) (pv 2) (pv 4) (fun _ _ => rfl)) (pa_cons (pv 6) pa_nil))) pa_nil))))) pa_nil)))))))), body_T (fun O F U m ds R p hU hT hTU hm hF hFT hN => ?_) h⟩
  · obtain ⟨O, U, m, ws, ds, R, p, rfl, _, _, _, _, _, _, hd, _⟩ := h
    rw [List.length_cons, hd.len]
    obtain ⟨n, n0, n1, rfl, rfl⟩ := p
    rfl
  · obtain ⟨n, n0, n1, rfl, rfl⟩ := p
    have hm' : m + 12 ≤ 1099511627776 := hm
    refine vs_newDx (F' := fun a => (F.and (.tab2 T springQ U a)).and (.urn K U m)) (κ := List Rat) (ν := Nat) (E := kR) (encv := encn) (fun H p hp h => ⟨⟨h.1.1, As.tab_tab2 hp h.1.2⟩, h.2⟩) fun a ha => ⟨_, rs_rt, ?_⟩
    have hU2 : U ∈ a :: O := List.mem_cons_of_mem _ hU
    have Ua : U ≠ a := fun e => ha (e ▸ hU)
    have offD : ∀ l : List (List Rat × Nat), ((F.and (.tab2 T springQ U a)).and (.dc P w K encR kR encn a l)).Off U := fun l => As.off_and (As.off_and hF As.off_tab2) (As.off_dc Ua.symm im_encn)
    have offU : ∀ k, ((F.and (.tab2 T springQ U a)).and (.urn K U k)).Off a := fun k => As.off_and (As.off_and (hN a ha) As.off_tab2a) (As.off_urn Ua)
    refine VS.pre (F1 := ((F.and (.tab2 T springQ U a)).and (.dc P w K encR kR encn a ([] : List (List Rat × Nat)))).and (.urn K U m)) ?_ fun H h => ⟨⟨h.1.1, h.2⟩, h.1.2⟩
    refine vsc_seq (vsc_for (Ee := fun _ : List (List Rat × Nat) => [.v (.ref U), .d (.int (n : Nat)), .v (.ref a), .no, .no, .no, .no, .no]) (FF2 := fun x => ((F.and (.tab2 T springQ U a)).and (.dc P w K encR kR encn a x)).and (.urn K U (m + 12))) (fun i x => LoOk n i x) (fun i x => ((F.and (.tab2 T springQ U a)).and (.dc P w K encR kR encn a x)).and (.urn K U (m + 1 + (n + 1) * i))) (x0 := [])
      (vei_rng1 (PN := fun k => 1 ≤ k ∧ k ≤ 3) ((vua_cons (vu_op (P := fun d => ∃ k : Nat, (1 ≤ k ∧ k ≤ 3) ∧ d = .int (k : Nat)) (vu_b (vb_im (vd_int (i := 1)) rfl)) (vu_call (P := fun d => ∃ k : Nat, k < 3 ∧ d = .int (k : Nat)) rfl (vua_b (ds := [.int 3]) (vba_cons (vb_im vd_int rfl) vba_nil)) (fun ds h => ?_) (show m + 1 ≤ LIM from by unfold LIM; omega)) fun a b h1 h2 => ?_) vua_nil) _ _ hU2 (offD [])) fun ds h => ?_) LoOk.zero (Le.refl _) (fun H h => h) (fun i d x ds hp hd hx => ?_) fun k ds x H hp hk h => ⟨h.1, As.urn_mono ?_ h.2⟩) fun x hx => ?_
    · subst h
      exact ⟨_, ⟨3, by omega, by omega, rfl, rfl⟩, fun d hd => hd⟩
    · obtain ⟨k, hk, rfl⟩ := h2
      subst h1
      exact ⟨.int ((k + 1 : Nat) : Int), ⟨k + 1, ⟨by omega, by omega⟩, rfl⟩, rfl, RDD.is rd_add (by congr 1; omega)⟩
    · obtain ⟨d, es, rfl, ⟨k, hk, rfl⟩, rfl⟩ := h
      exact ⟨k, rfl, by omega, hk⟩
    · obtain ⟨nn, ⟨hn1, hn2⟩, rfl⟩ := hp
      have hi : i < nn := by
        have := (List.getElem?_eq_some_iff.mp hd).1
        rw [List.length_map, List.length_range] at this; exact this
      have hni : (n + 1) * i ≤ 6 := Nat.le_trans (Nat.mul_le_mul (by omega : n + 1 ≤ 3) (by omega : i ≤ 2)) (by decide)
      refine ⟨_, _, gd_name, ?_⟩
      have qq : ∀ q : Rat, ∀ a b : Int, q.num = a → ((q.den : Nat) : Int) = b → ∀ env : List Sl, VD K (tTup (tCons (tC (.int a)) (tCons (tC (.int b)) tNil))) env (encQ q) := fun q a b e1 e2 env => by
        unfold encQ
        rw [e1, e2]
        exact vd_tup (va_cons vd_int (va_cons vd_int va_nil)) (Nat.le_of_ble_eq_true rfl)
      have qn : ∀ q : Rat, ∀ a b : Int, q.num = -a → ((q.den : Nat) : Int) = b → ∀ env : List Sl, VD K (tTup (tCons (tUn (rU fun i => .int (-i)) (tC (.int a))) (tCons (tC (.int b)) tNil))) env (encQ q) := fun q a b e1 e2 env => by
        unfold encQ
        rw [e1, e2]
        exact vd_tup (va_cons (vd_un vd_int ru_I) (va_cons vd_int va_nil)) (Nat.le_of_ble_eq_true rfl)
      have vr : ∀ env : List Sl, env[1]? = some (.d (.int (n : Nat))) → VI K (iRng1 (tCons (tVar 1) tNil)) env ((List.range n).map fun i => .int (i : Nat)) := fun env he => by
        have := vi_rng1 (K := K) (j := (n : Nat)) (va_cons (vd_var he) va_nil) (by omega) (by omega)
        rwa [show ((n : Nat) : Int).toNat = n from by simp] at this
      refine vsc_seqL (F1 := ((F.and (.tab2 T springQ U a)).and (.dc P w K encR kR encn a x)).and (.urn K U (m + 1 + (n + 1) * i + n))) (vs_asgE (I := fun e => ∃ r : List Rat, (r.length = n ∧ ∀ q ∈ r, q ∈ fives) ∧ e = [.v (.ref U), .d (.int (n : Nat)), .v (.ref a), .d d, .d (encR r), .no, .no, .no]) (ve_cb (P := fun d => ∃ r : List Rat, (r.length = n ∧ ∀ q ∈ r, q ∈ fives) ∧ d = encR r) (vea_cons (ve_lc (m2 := m + 1 + (n + 1) * i + n) (PA := (· = (List.range n).map fun i => PyData.int (i : Nat))) (P := fun d => ∃ q : Rat, q ∈ fives ∧ d = encQ q) (fun j => m + 1 + (n + 1) * i + j) hU2 (offD x) (vei_p (VI.z (vr _ rfl))) (fun ds h => ?_) (fun d h => ?_) fun j d ds hp hd => ?_) vea_nil) fun ds hd => ?_) fun d' hd' => ?_) fun e he => ?_
      · subst h
        rw [List.length_map, List.length_range]
        exact ⟨by omega, Nat.le_refl _⟩
      · obtain ⟨q, _, rfl⟩ := h
        exact im_encQ q
      · have hj : j < n := by
          subst hp
          have := (List.getElem?_eq_some_iff.mp hd).1
          rw [List.length_map, List.length_range] at this; exact this
        refine ⟨_, _, gd_name, by simp, VU.le (vu_call (P := fun d => d ∈ fives.map encQ) rfl (vua_b (ds := [.list (fives.map encQ)]) (vba_cons (vb_new (vn_lst (va_cons (qq (rq 0 1) 0 1 rfl rfl _) (va_cons (qq (rq 1 1) 1 1 rfl rfl _) (va_cons (qn (rq (-1) 1) 1 1 rfl rfl _) (va_cons (qq (rq 2 1) 2 1 rfl rfl _) (va_cons (qq (rq 1 2) 1 2 rfl rfl _) va_nil))))) (Nat.le_of_ble_eq_true rfl)) (imA_map _ im_encQ fives)) vba_nil)) (fun ds h => ?_) (by unfold LIM; omega)) (fun d h => ?_) (Nat.le_refl _)⟩
        · subst h
          exact ⟨_, ⟨true, fives.map encQ, by decide, by decide, imA_map _ im_encQ fives, rfl, rfl⟩, fun d h => h⟩
        · obtain ⟨q, h1, h2⟩ := List.mem_map.mp h
          exact ⟨q, h1, h2.symm⟩
      · obtain ⟨_, _, rfl, ⟨os, dd, rfl, rfl, hl, ho⟩, rfl⟩ := hd
        obtain ⟨r, rfl, hr2⟩ := ex_map ho
        rw [List.length_map, List.length_map, List.length_range] at hl
        exact ⟨encR r, ⟨r, ⟨hl, hr2⟩, rfl⟩, im_encR r, rg_tupL⟩
      · obtain ⟨r, hr2, rfl⟩ := hd'
        exact ⟨_, _, gd_name, r, hr2, rfl⟩
      · obtain ⟨r, hr2, rfl⟩ := he
        have vk : VD K (tVar 4) ([.v (.ref U), .d (.int (n : Nat)), .dc P w K encR kR encn x, .d d, .d (encR r), .no, .no, .no] : List Sl) (encR r) := vd_var rfl
        have xl : x.length < 100000 := by have := hx.len; omega
        have key := vs_dsetE (K := K) (P := P) (w := w) (E := kR) (encv := encn) (l := x) (O := O) (a := a) (i := 2) (k := r) (J := fun v => 1 ≤ v ∧ v ≤ 3) (G := (F.and (.tab2 T springQ U a)).and (.urn K U (m + 1 + (n + 1) * (i + 1)))) (FF := fun v => ((F.and (.tab2 T springQ U a)).and (.dc P w K encR kR encn a (put x r v))).and (.urn K U (m + 1 + (n + 1) * (i + 1)))) (env := [.v (.ref U), .d (.int (n : Nat)), .v (.ref a), .d d, .d (encR r), .no, .no, .no]) (tk := tVar 4) (te := tOp (rAddG K) (tC (.int 1)) (tCall (spU K 1 PtakU) [] E0 (tCons (tVar 0) (tCons (tC (.int 3)) tNil)))) (F0 := ((F.and (.tab2 T springQ U a)).and (.dc P w K encR kR encn a x)).and (.urn K U (m + 1 + (n + 1) * i + n))) (Pd := fun d => ∃ k : Nat, (1 ≤ k ∧ k ≤ 3) ∧ d = .int (k : Nat)) rfl
          (VE.le (vu_op (P := fun d => ∃ k : Nat, (1 ≤ k ∧ k ≤ 3) ∧ d = .int (k : Nat)) (vu_b (vb_im (vd_int (i := 1)) rfl)) (vu_call (P := fun d => ∃ k : Nat, k < 3 ∧ d = .int (k : Nat)) rfl (vua_b (ds := [.int 3]) (vba_cons (vb_im vd_int rfl) vba_nil)) (fun ds h => by subst h; exact ⟨_, ⟨3, by omega, by omega, rfl, rfl⟩, fun d hd => hd⟩) (show m + 1 + (n + 1) * i + n + 1 ≤ LIM from by unfold LIM; omega)) (fun a b h1 h2 => by
            obtain ⟨k, hk, rfl⟩ := h2
            subst h1
            exact ⟨.int ((k + 1 : Nat) : Int), ⟨k + 1, ⟨by omega, by omega⟩, rfl⟩, rfl, RDD.is rd_add (by congr 1; omega)⟩) _ _ hU2 (offD x)) (fun d h => h) fun H h => ⟨⟨h.1.1, As.urn_mono (by rw [Nat.mul_succ]; omega) h.2⟩, h.1.2⟩)
          (fun d ⟨k, hk, e⟩ => ⟨k, e, hk⟩) im_encn vk (offU _) xl fun v H h => ⟨⟨h.1.1, h.2⟩, h.1.2⟩
        exact fun D σ H z q => key D σ H z fun v σ' H' hv xo z' => q (put x r v) σ' H' (hx.put hr2 hv) xo (z'.le (.same (.same (.same (.drop (.drop (Le.refl _)))))))
    · obtain ⟨nn, ⟨hn1, hn2⟩, rfl⟩ := hp
      rw [List.length_map, List.length_range] at hk
      have : (n + 1) * k ≤ 9 := Nat.le_trans (Nat.mul_le_mul (by omega : n + 1 ≤ 3) (by omega : k ≤ 3)) (by decide)
      omega
    · obtain ⟨ds, ⟨nn, ⟨hn1, hn2⟩, rfl⟩, hx⟩ := hx
      rw [List.length_map, List.length_range] at hx
      have xl := hx.len
      have sok := spr_ok hx (by omega) hn2
      have ls := lsum_le hx
      have xp := hx.pos (by omega)
      refine VS.pre (F1 := ((F.and (.tab2 T springQ U a)).and (.urn K U (m + 12))).and (.dc P w K encR kR encn a x)) ?_ fun H h => ⟨⟨h.1.1, h.2⟩, h.1.2⟩
      refine vs_freeze (i := 2) rfl ha im_encn (fun d hd => by obtain ⟨_, _, rfl⟩ := hd; exact im_encSp _) ?_
      refine VS.pre (F1 := (F.and (.tab T springQ U)).and (.urn K U (m + 12))) ?_ fun H h => ⟨⟨h.1.1, As.tab2_tab h.1.2⟩, h.2⟩
      let rsS := (x.map (·.1)).mergeSort (PySem.W.dataLe false kdR)
      have rl : rsS.length = x.length := by rw [List.length_mergeSort, List.length_map]
      have krow : ∀ r ∈ x.map (·.1), ∀ q ∈ r, q ∈ fives := fun r hr2 => by
        obtain ⟨y, hy, rfl⟩ := List.mem_map.mp hr2
        exact (hx.row y hy).2
      have hsort := ve_sortBy (K := K) (G := F) (O := O) (T := T) (U := U) (m := m + 12) (q := springQ) (enc := encR) (kd := kdR) (N := ["_law_own", "_law_x"]) (rs := x.map (·.1)) (env := [.v (.ref U), .d (.int (n : Nat)), .dc P w K encR kR encn x, .no, .no, .no, .no, .no]) (te := tCB (rListC P w K encR) (tCons (tVar 2) tNil)) (tb := (tLc (iSeq K (tVar 0)) (gName 1) tYes (tOp (rI CDivW fun i j => .int (i / j)) (tOp (rMulG K) (tC (.int 2)) (tOp (rIx K) (tVar 1) (tC (.int 0)))) (tOp (rIx K) (tVar 1) (tC (.int 1)))) [1])) hT hU hFT
        ((vn_listC (i := 2) (encv := encn) (l := x) rfl).is (by rw [List.map_map]; rfl)) im_encR (by rw [List.length_map]; omega) (PySem.W.AllAlike.of al_kdR) (sb_kdR _) (fun r _ => Nat.le_trans (dp_kdR r) (by decide)) fun r hr2 => ⟨_, rfl, ?_⟩
      · refine vs_seq (F1 := (F.and (.tab T springQ U)).and (.urn K U (m + 12))) (vs_asgE (I := (· = [.v (.ref U), .d (.int (n : Nat)), .dc P w K encR kR encn x, .no, .no, .no, .d (.int (lsum x : Nat)), .d (.list (rsS.map encR))])) (ve_tup (vea_cons (ve_b (vb_im (d := .int (lsum x : Nat)) ((vd_cb (va_cons (VN.dat ((vn_listVals (i := 2) (encv := encn) (l := x) rfl).is (es := (x.map fun y => ((y.2 : Nat) : Int)).map .int) (by rw [List.map_map]; rfl))) va_nil) rc_sumL).is (by rw [← lsumI])) rfl)) (vea_cons hsort vea_nil)) (fun ds h => ?_)) fun d hd => ?_) fun e he => ?_
        · obtain ⟨_, _, rfl, _, _, _, rfl, _, rfl⟩ := h
          exact Nat.le_of_ble_eq_true rfl
        · obtain ⟨_, rfl, _, _, rfl, rfl, _, _, rfl, rfl, rfl⟩ := hd
          exact ⟨_, _, gd_tup (gds_cons gd_name (gds_cons gd_name gds_nil)) rfl, rfl⟩
        · subst he
          refine (vs_ret (d := encSp (sprO x)) (vb_im ?_ (im_encSp _))).le (.rt (fun d hd => ⟨sprO x, sok, hd⟩) fun H h => h)
          refine VD.is (vd_cb (va_cons (VN.dat (vn_lc (ds := rsS.map encR) (os := rsS.map fun r => encSp1 (r, Rat.divInt ((lk x r).getD 0 : Nat) (lsum x : Nat))) (vi_seqL (vb_var rfl)) (by rw [List.length_map, rl]; omega) (lc_map fun r hr2 => ?_))) va_nil) rg_tupL) ?_
          · have hr3 := (List.mergeSort_perm _ _).mem_iff.mp hr2
            obtain ⟨v, hv⟩ := Option.isSome_iff_exists.mp (lk_mem.mpr hr3)
            rw [hv]
            refine ⟨_, _, gd_name, by simp, vt_yes, vb_im (d := encSp1 (r, Rat.divInt ((v : Nat) : Int) ((lsum x : Nat) : Int))) (vd_tup (va_cons (vd_var rfl) (va_cons (vd_call (P := PfracD) (va_cons (vd_ixC (i := 2) (encv := encn) (l := x) rfl (vd_var rfl) hv) (va_cons (vd_var rfl) va_nil)) ⟨((v : Nat) : Int), ((lsum x : Nat) : Int), by omega, ?_, rfl, rfl⟩) va_nil)) (Nat.le_of_ble_eq_true rfl)) (im_encSp1 _)⟩
            exact Nat.le_trans (by omega : ((lsum x : Nat) : Int).natAbs ≤ 2 ^ 4) (Nat.pow_le_pow_right (by decide) (by decide))
          · unfold encSp sprO
            rw [List.map_map]; rfl
      · refine (vn_lc (env := enter ["_law_own", "_law_x"] [encR r]) (ds := r.map encQ) (os := r.map fun q => .int (2 * q.num / ((q.den : Nat) : Int))) (vi_seqT (vb_var (i := 0) rfl)) (by rw [List.length_map]; obtain ⟨y, hy, rfl⟩ := List.mem_map.mp hr2; rw [(hx.row y hy).1]; omega) (lc_map fun q hq => ?_))
        obtain ⟨b1, b2⟩ := fives_bd q (krow r hr2 q hq)
        have b1 : q.num.natAbs ≤ 2 := b1
        have b2 : q.den ≤ 2 := b2
        have b3 := q.den_pos
        exact ⟨_, _, gd_name, by simp, vt_yes, vb_im (vd_op (vd_op vd_int (vd_op (vd_var (d := encQ q) rfl) vd_int (rd_ix0 rfl)) (rd_mulW (mul_small (by decide) b1))) (vd_op (vd_var (d := encQ q) rfl) vd_int (rd_ix1 rfl)) (rd_fdiv (cdivW (b := 1) (by omega) (by omega) (by decide)))) rfl⟩
end
end NB
end S_NbD19

section S_NbD20
set_option Elab.async false
set_option linter.all false
set_option maxRecDepth 100000
set_option maxHeartbeats 4000000
set_option exponentiation.threshold 100000
namespace NB
open PySem PySem.Spec PyProof.Rows L2
open Evl (Ex)
local macro_rules | `(tactic| walk_at "vd") => `(tactic| repeat' (first
  | exact vd_var rfl | exact vd_int | exact vd_bl | exact va_nil | exact vba_nil | exact vt_yes
  | with_reducible apply va_cons | with_reducible apply vt_test | with_reducible apply vt_not | with_reducible apply vt_B
  | with_reducible apply vd_tup | with_reducible apply vd_cb | with_reducible apply vd_op | with_reducible apply vd_un
  | exact rd_add | exact rd_ix0 rfl | exact rd_ix1 rfl | exact rd_I0 | exact rd_B0 | exact ru_I
  | exact rg_lenT | exact rg_lenL | exact rc_abs | exact rc_gcd
  | exact Nat.le_of_ble_eq_true rfl))
local macro_rules | `(tactic| walk_at "le") => `(tactic| repeat (first | exact Le.nil | apply Le.same | apply Le.drop))
section
variable {P : Program} {w : World} {K : PySem.W.Frag} {mg : Str → Option Value} {base : Heap}


/-! ### the script: its list may be one of the module's own -/
def fzP (K : PySem.W.Frag) (is : List Int) (v : V) (H : Hp) : Prop := ∃ a, v = .ref a ∧ SqL K H a (is.map V.int)
theorem rd_ex {H H' : Hp} (e : Ex H H') {a : Addr} {o : HO} : Rd H a o → Rd H' a o
  | .inl h => .inl (e _ _ h)
  | .inr ⟨u, h⟩ => .inr ⟨u, e _ _ h⟩
theorem sql_ex {K : PySem.W.Frag} {H H' : Hp} (e : Ex H H') {a : Addr} {xs : List V} (h : SqL K H a xs) : SqL K H' a xs := h.imp (rd_ex e) id
def Sl.fz (K : PySem.W.Frag) (is : List Int) : Sl := .o (fzP K is) fun _ _ _ e ⟨a, h1, h2⟩ => ⟨a, h1, sql_ex e h2⟩
def spCel (K : PySem.W.Frag) : Sp := fun vs H Q _ => ∃ (is : List Int) (a : Addr), vs = [.ref a, .int 1] ∧ SqL K H a (is.map V.int) ∧ ∀ p xs H', H p = none → Ex H H' → H' p = some (.lst xs) → DtA K H' xs [.int (celf is)] → Q (.ref p) H'
section
variable {K : PySem.W.Frag} {env : List Sl} {i : Nat} {is : List Int} {E : XK}
theorem vn_slF {tl th : TO} {lo hi : Option Int} (h : env[i]? = some (.fz K is)) (hl : VO K tl env lo) (hh : VO K th env hi) : VN K (tSl (rSlL K) (tVar i) tl th) env (cutD (is.map .int) lo hi) := fun σ B s H1 e Q q => by
  obtain ⟨v, h1, a, rfl, h2⟩ := s.getO h
  exact ⟨_, h1, hl σ B s H1 _ (hh σ B s H1 _ ⟨a, is.map V.int, rfl, sql_ex e h2, fun z hz => q z _ _ hz (Ex.new hz) upd_same (DtA.ex (Ex.new hz) _ _ (dta_int (K := K) (H := H1) is).cut)⟩)⟩
theorem vn_callF (h : env[i]? = some (.fz K is)) : VN K (tCall (spCel K) [] E (tCons (tVar i) (tCons (tC (.int 1)) tNil))) env [.int (celf is)] := fun σ B s H1 e Q q => by
  obtain ⟨v, h1, a, rfl, h2⟩ := s.getO h
  exact ⟨_, h1, is, a, rfl, sql_ex e h2, fun p xs H' hp e2 hx hd => q p xs H' hp e2 hx hd⟩
end
theorem cb_law_cellsF (W : Wd K mg) : Cb P w K mg base "_law_cells" 1 ["_law_script", "_law_roof"] (spCel K) := by
  refine mk_cb W 15 (i := 27) rfl sc_law_cells (fun _ _ _ _ _ _ us hl => match us, hl with | [_, _], _ => rfl) (fun vs H Q E h => ?_) fun f cdv A outer s H vs Q E hr h => ⟨_, PSs.nox (
    (pss_cons (ps_set (i := 2) sc_law_cells.nd rfl (by first | exact Or.inl rfl | exact Or.inr rfl) (pe_orTX (K := K) rfl (pe_callTy (cr_listX (K := K) rfl) (by rfl) (W.free "list") (by decide +kernel) (pa_cons (pe_slice (sl_listX (K := K) rfl) (pv 0) po_none (po_some (pv 1))) pa_nil)) (pe_one (pe_lst (pa_cons pe_int pa_nil)))))
  (pss_cons (ps_for PassesOwn.never rfl (pi_enumX (K := K) rfl rfl (W.free "enumerate") (pa_cons (pe_slice (sl_listX (K := K) rfl) (pv 0) (po_some (pv 1)) (po_some pe_int)) pa_nil)) (pg_tupX (n := 2) (K := K) rfl rfl (pgs_cons (pg_name (i := 3) sc_law_cells.nd rfl (by first | exact Or.inl rfl | exact Or.inr rfl)) (pgs_cons (pg_name (i := 4) sc_law_cells.nd rfl (by first | exact Or.inl rfl | exact Or.inr rfl)) pgs_nil))) (pss_cons (ps_set (i := 5) sc_law_cells.nd rfl (by first | exact Or.inl rfl | exact Or.inr rfl) (pe_op op_mod (pe_callTy call_int1 (by rfl) (W.free "int") (by decide +kernel) (pa_cons (pv 3) pa_nil)) (pv 1)))
  (pss_one (ps_asg (pe_op (op_addX (K := K) rfl) (pe_ix (ix_seqX (K := K) rfl) (pv 2) (pv 5) (fun _ _ => rfl)) (pe_op (op_mulX (K := K) rfl) (pv 4) (pe_op (op_addX (K := K) rfl) (pv 3) pe_int))) (pg_sub (pv 2) (pv 5) set_list)))))
  (pss_one (ps_ret (pv 2)))))), ?_⟩
  · obtain ⟨is, a, rfl, _⟩ := h
    rfl
  · obtain ⟨is, a0, rfl, hs, q⟩ := h
    have s0 : Sg K H (L2.start ["_law_script", "_law_roof", "_law_cells_here", "_law_at", "_law_cell", "_law_spot"] [.ref a0, .int 1]) [.fz K is, .d (.int 1), .no, .no, .no, .no] := .cons ⟨_, rfl, a0, rfl, hs⟩ (.cons ⟨_, rfl, .int 1⟩ (Sg.nones 4))
    refine (show VS K [] As.emp _ [.fz K is, .d (.int 1), .no, .no, .no, .no] (.rn (· = [.int (celf is)]) As.emp) from ?_) _ _ H ⟨fun a m => (by cases m), by rw [Bs_nil]; exact s0, trivial⟩ fun p xs d' H' e x _ _ hp hv hw => ?_
    · let st := fun (x : Int) (q : Int × Nat) => x + q.1 * ((q.2 : Nat) + 2)
      let qs := ((is.drop 1).take 62).zipIdx
      refine vs_newL (ds := [.int ((qs.take 0).foldl st (is.headD 0))]) rfl ((vn_orT (vn_cb (va_cons (VN.dat ((vn_slF rfl vo_none (vo_var rfl)).is (cut_1 is))) va_nil) rg_listL) (vn_lst (va_cons (vd_int (i := 0)) va_nil) (Nat.le_of_ble_eq_true rfl))).is ?_) fun a ha => ⟨.ro a (As.emp.and (.lst K a [.int (celf is)] rfl)), .ro fun H h => ⟨trivial, ?_⟩, ?_⟩
      · cases is <;> rfl
      · obtain ⟨xs, h1, h2⟩ := h.2
        exact ⟨xs, _, h1, h2, rfl, rfl⟩
      refine vs_seq1 (vs_forT (f := fun q : Int × Nat => .tuple [.int (q.2 : Nat), .int q.1]) (xs := qs) (fun i => [.fz K is, .d (.int 1), .v (.ref a), .no, .no, .no]) (fun i => As.emp.and (.lst K a [.int ((qs.take i).foldl st (is.headD 0))] rfl)) ((vi_enum (k := true) (ds := ((is.drop 1).take 62).map .int) (vb_new ((vn_slF rfl (vo_var rfl) vo_int).is (cut_63 is)) (imA_map _ (fun _ => rfl) _))).is (enumD_map .int _)) (Le.refl _) (fun H h => h) fun i q hq => ?_) ?_
      · refine ⟨_, _, _, gd_tup (gds_cons gd_name (gds_cons gd_name gds_nil)) rfl, vs_seq1 (vs_asg (d := .int 0) (vb_im ((vd_op (vd_cb (va_cons (vd_var rfl) va_nil) rc_int) (vd_var (d := .int 1) rfl) (rd_mod (by omega))).is (by congr 1; omega)) rfl) gd_name) ((vs_setLV (i := 2) (j := 0) (m' := rfl) rfl List.mem_cons_self (vd_op (vd_op (vd_var rfl) (vd_var rfl) (rd_ixL0 rfl)) (vd_op (vd_var rfl) (vd_op (vd_var rfl) vd_int rd_add) (rd_mul (.inr ?_))) rd_add) rfl (vd_var rfl) (Nat.lt_of_sub_eq_succ rfl) As.off_emp).le (.nx (fun e he => ⟨e, he, Le.refl _⟩) fun H h => ?_)), ?_⟩
        · have h1 := (List.getElem?_eq_some_iff.mp hq).1
          have h2 : q.2 = i := by
            rw [List.getElem?_zipIdx] at hq
            obtain ⟨t, ht, rfl⟩ := Option.map_eq_some_iff.mp hq
            simp
          rw [List.length_zipIdx, List.length_take] at h1
          omega
        · refine ⟨trivial, ?_⟩
          obtain ⟨xs, h1, h2⟩ := h.2
          refine ⟨xs, h1, ?_⟩
          rw [fold_take _ _ _ hq]
          exact h2
        · walk_at "le"
      · rw [List.take_length]
        exact vs_retO rfl
    · subst e
      refine q p xs H' hp ?_ hv (by rw [Bs_nil] at hw; exact hw)
      unfold XO at x
      rw [Bs_nil, Bs_nil] at x
      exact x
def spLF (K : PySem.W.Frag) (T : Addr) : Sp := fun vs H Q _ => ∃ (is : List Int) (a : Addr), vs = [.ref a] ∧ SqL K H a (is.map V.int) ∧ H T = some (.tbl #[]) ∧ ∀ H', Q (.bl true) H'
theorem fn_lawF {TP : Addr} {tq : Str} {fd : FuncData} (F : FunD K "law" "law" (defArgs (topS 52)) (defBody (topS 52)) (defScope (topS 52)) [] [] (He.fAd K ("law", none)) fd) (c__law_by_hand_right : Cb P w K mg base "_law_by_hand_right" 14 [] (spD K PbyD)) (c__law_right : Cb P w K mg base "_law_right" 15 ["_law_urn"] (spT K TP tq 100 PrigU)) (c__law_box : Cb P w K mg base "_law_box" 1 ["_law_script", "_law_at"] (spN K PboxN)) (c__law_cells : Cb P w K mg base "_law_cells" 1 ["_law_script", "_law_roof"] (spCel K)) : FnOk P w K mg base CX0 16 (He.fAd K ("law", none)) fd ["_law_script"] (spLF K TP) := by
  refine F.ok (k := 15) sc_law (fun vs H Q E h => ?_) fun cdv A outer s H vs Q E hr h => ⟨_, PSs.nox (
    (pss_one (ps_ret (pe_and (pe_cb0 c__law_by_hand_right (hr.mono (by omega)) rfl) (pe_one (pe_cb c__law_right (hr.mono (by omega)) rfl (pa_cons (pe_cb c__law_box (hr.mono (by omega)) rfl (pa_cons (pe_cb c__law_cells (hr.mono (by omega)) rfl (pa_cons (pv 0) (pa_cons pe_int pa_nil))) (pa_cons pe_int pa_nil))) pa_nil))))))), ?_⟩
  · obtain ⟨is, a, rfl, _⟩ := h
    rfl
  · obtain ⟨is, a, rfl, ha, hT, q⟩ := h
    have hb : SqL K (Bs H [TP]) a (is.map V.int) := by
      have ne : ∀ {o : HO}, H a = some o → (∀ ps, o ≠ .tbl ps) → a ∉ [TP] := fun h n m => by
        rw [List.mem_singleton.mp m, hT] at h
        exact n _ (Option.some.inj h).symm
      rcases ha with (h | ⟨u, h⟩) | h
      · exact .inl (.inl (by rw [Bs_out (ne h fun ps z => by cases z)]; exact h))
      · exact .inl (.inr ⟨u, by rw [Bs_out (ne h fun ps z => by cases z)]; exact h⟩)
      · exact .inr h
    have s0 : Sg K (Bs H [TP]) (L2.start ["_law_script"] [.ref a]) [.fz K is] := .cons ⟨_, rfl, a, rfl, hb⟩ .nil
    refine (vs_retE (K := K) (O := [TP]) (F := As.tb0 TP) (P := fun d => d = .bool true) (F1 := As.emp) (env := [.fz K is]) (ve_andV (vb_im (vd_call (P := PbyD) va_nil ⟨rfl, rfl⟩) rfl) (ve_callR (vn_call (PN := PboxN) (va_cons (VN.dat (vn_callF rfl)) (va_cons vd_int va_nil)) ⟨_, rfl, rfl⟩) (by decide)))) _ _ H ⟨fun b mb => by rw [List.mem_singleton.mp mb]; exact ⟨_, hT, trivial⟩, s0, hT⟩ fun v d H' p x f hv => ?_
    subst p
    rw [dt_bool hv]
    exact q H'
end
end NB
end S_NbD20

section S_NbHead
set_option Elab.async false
set_option linter.all false
set_option maxRecDepth 100000
set_option maxHeartbeats 0
namespace NB
open PySem PySem.Spec PyProof.Rows L2
def gloA : List Str := ["tuple_of", "fraction", "plus", "kind_samples", "gathered_wish", "made_wish", "wish_of", "factors_of", "mean_over", "is_nought", "_shared", "fitting_powers", "nought_basis", "_law_box", "_law_take", "_law_cells", "_law_of", "_law_same", "_law_low", "_law_add", "ZERO", "ONE", "MINUS"]
def gloB : List Str := ["_law_mul", "_law_gathered", "_law_less", "_law_factors", "_law_number", "_law_worth", "_law_drawn", "_law_met", "_law_ratio", "_law_shows", "_law_powers", "_law_shape", "_law_spring", "_law_groups", "_law_splits", "_law_fitting", "_law_basis_right", "_law_over_right", "_law_by_hand_right", "_law_right", "law"]
def fa : List He.Fa := (gloA ++ gloB).map He.Fa.glo ++ freeA.map He.Fa.free
def exB (K : PySem.W.Frag) : Bool := He.tupB K "ZERO" [.int 0, .int 1] && (He.tupB K "ONE" [.int 1, .int 1] && (He.tupB K "MINUS" [.int (-1), .int 1] && He.eqO (PySem.W.nsIn K mainGlobals "gcd") (some (some (.builtin "math.gcd")))))
abbrev R : PySem.W.OpenRow := PySem.W.OpenLaw.row PySem.Challenge.rw_everysource_k61_whole_means_over_and_nou
abbrev hk : PySem.W.Hook := He.hookX 4 fa fns [] [("_law_spring", none)] exB
def ob (s : PySem.W.SharedT) : He.AlX := He.obsX 4 fa fns [] [("_law_spring", none)] exB (HandSHeadRun.getT s)
theorem ob_eq (s : PySem.W.SharedT) : ob s = hk.obs s.abs := He.obsX_eq (HandSHeadRun.getT_eq s)
def looseA : List PySem.Str := ["Unfit", "tuple_of", "fraction", "plus", "kind_samples", "gathered_wish", "made_wish", "wish_of", "factors_of", "mean_over", "is_nought", "_shared", "fitting_powers", "nought_basis", "_law_box", "_law_take", "_law_cells", "_law_of", "_law_same", "_law_low", "_law_add", "_law_mul", "_law_gathered"]
def looseB : List PySem.Str := ["_law_less", "_law_factors", "_law_number", "_law_worth", "_law_drawn", "_law_met", "_law_ratio", "_law_shows", "_law_powers", "_law_shape", "_law_spring", "_law_groups", "_law_splits", "_law_fitting", "_law_basis_right", "_law_over_right", "_law_by_hand_right", "_law_right", "ZERO", "ONE", "MINUS"]
def loose : List PySem.Str := looseA ++ looseB
theorem run (w : World) : HandSHeadRun.RunEqI R (PySem.W.view R.prog [0, 52]) hk ob 6000 loose w := by
  unfold HandSHeadRun.RunEqI
  kernel_rfl
end NB
end S_NbHead

section S_NbFin
set_option Elab.async false
set_option linter.all false
set_option maxRecDepth 100000
set_option maxHeartbeats 0
namespace NB
open PySem PySem.Spec PyProof.Rows L2

theorem fns_names : (fns.all fun d => decide (d.at_ = (d.name, none)) && decide (d.name ∈ gloA ++ gloB)) = true := by decide +kernel
theorem mg_has {K : PySem.W.Frag} {h : Heap} {mg : Str → Option Value} {w : World} (X : K.In h) (G : h.Ns mainGlobals mg) (c : He.SaysX fa fns [] [("_law_spring", none)] exB w h K) {x : Str} (m : x ∈ gloA ++ gloB) : mg x = some (.ref (He.ga K x)) :=
  He.glo_ok X G (c.t.d.facts (f := .glo x) (List.mem_append_left _ (List.mem_map.mpr ⟨x, m, rfl⟩)))
theorem wd_of {K : PySem.W.Frag} {h : Heap} {mg : Str → Option Value} {w : World} (X : K.In h) (G : h.Ns mainGlobals mg) (c : He.SaysX fa fns [] [("_law_spring", none)] exB w h K) : Wd K mg where
  fn := fun j d hj => by
    have q := List.all_eq_true.mp fns_names d (List.mem_of_getElem? hj)
    rw [Bool.and_eq_true, decide_eq_true_eq, decide_eq_true_eq] at q
    obtain ⟨q1, q2⟩ := q
    refine ⟨?_, ?_⟩
    · rw [q1]
      exact mg_has X G c q2
    · exact c.t.d.def_ j hj
  fr := fun x hx => He.free_ok X G (c.t.d.facts (f := .free x) (List.mem_append_right _ (List.mem_map.mpr ⟨x, hx, rfl⟩)))
  zero := by
    obtain ⟨h1, _⟩ := He.ba (show (He.tupB K "ZERO" [.int 0, .int 1] && _) = true from c.more)
    exact ⟨_, mg_has X G c (by decide +kernel), fun H => He.tupB_ok h1 H⟩
  one := by
    obtain ⟨_, h2⟩ := He.ba (show (He.tupB K "ZERO" [.int 0, .int 1] && (He.tupB K "ONE" [.int 1, .int 1] && _)) = true from c.more)
    obtain ⟨h1, _⟩ := He.ba h2
    exact ⟨_, mg_has X G c (by decide +kernel), fun H => He.tupB_ok h1 H⟩
  minus := by
    obtain ⟨_, h2⟩ := He.ba (show (He.tupB K "ZERO" [.int 0, .int 1] && (He.tupB K "ONE" [.int 1, .int 1] && (He.tupB K "MINUS" [.int (-1), .int 1] && _))) = true from c.more)
    obtain ⟨_, h3⟩ := He.ba h2
    obtain ⟨h1, _⟩ := He.ba h3
    exact ⟨_, mg_has X G c (by decide +kernel), fun H => He.tupB_ok h1 H⟩
  gcd := by
    obtain ⟨_, h2⟩ := He.ba (show (He.tupB K "ZERO" [.int 0, .int 1] && (He.tupB K "ONE" [.int 1, .int 1] && (He.tupB K "MINUS" [.int (-1), .int 1] && He.eqO (PySem.W.nsIn K mainGlobals "gcd") (some (some (.builtin "math.gcd")))))) = true from c.more)
    obtain ⟨_, h3⟩ := He.ba h2
    obtain ⟨_, h4⟩ := He.ba h3
    exact PySem.W.mg_of X G (He.eqO_ok h4)
/-- the whole chain of the defs -/
theorem fn_all {P : Program} {w : World} {K : PySem.W.Frag} {mg : Str → Option Value} {base : Heap} {T : Addr} {fd : FuncData} (W : Wd K mg) (F : FunD K "law" "law" (defArgs (topS 52)) (defBody (topS 52)) (defScope (topS 52)) [] [] (He.fAd K ("law", none)) fd) (TB : LamX.TabB base mg (He.codeOf K ("_law_spring", none)) T) : FnOk P w K mg base CX0 16 (He.fAd K ("law", none)) fd ["_law_script"] (spLF K T) := by
  have fraction : Cb P w K mg base _ _ _ _ := cb_fraction W
  have plus := cb_plus W fraction
  have low : Cb P w K mg base _ _ _ _ := cb_law_low W
  have add := cb_law_add W low
  have mul := cb_law_mul W low
  have gathered_wish := cb_gathered_wish W plus
  have gathered := cb_law_gathered W add
  have tuple_of : Cb P w K mg base _ _ _ _ := cb_tuple_of W 10
  have factors_of : Cb P w K mg base _ _ _ _ := cb_factors_of W
  have factors : Cb P w K mg base _ _ _ _ := cb_law_factors W
  have made_wish := cb_made_wish W gathered_wish tuple_of
  have wish_of := cb_wish_of W made_wish tuple_of
  have is_nought := cb_is_nought W wish_of tuple_of
  have less := cb_law_less W gathered
  have number := cb_law_number W mul
  have worth := cb_law_worth W add mul number
  have met := cb_law_met W add mul number
  have drawn := cb_law_drawn W mul
  have shows : Cb P w K mg base _ _ _ _ := cb_law_shows W
  have kind_samples := cb_kind_samples W tuple_of
  have splits : Cb P w K mg base _ _ _ _ := cb_law_splits W 4
  have shared_ : Cb P w K mg base _ _ _ _ := cb_shared W 4
  have same : Cb P w K mg base _ _ _ _ := cb_law_same W 12
  have fitting_powers := cb_fitting_powers W shared_
  have nought_basis := cb_nought_basis W fitting_powers kind_samples tuple_of factors_of
  have mean_over := cb_mean_over W tuple_of factors_of made_wish
  have fitting := cb_law_fitting W splits
  have take : Cb P w K mg base _ _ _ _ := cb_law_take W
  have of_ := cb_law_of W take
  have ratio := cb_law_ratio W of_
  have box : Cb P w K mg base _ _ _ _ := cb_law_box W
  have cells : Cb P w K mg base _ _ _ _ := cb_law_cellsF W
  have powers := cb_law_powers W take of_
  have shape := cb_law_shape W gathered powers ratio
  have groups := cb_law_groups W of_ take
  have basis := cb_law_basis_right W fitting gathered shows nought_basis same is_nought of_ ratio less factors mul
  have over := cb_law_over_right W drawn mean_over add mul met worth set_rule
  have byhand := cb_law_by_hand_right W nought_basis mean_over same over by_ok
  have spring := cb_law_spring W take of_ low TB
  have right := cb_law_right W groups over take shows spring basis shape of_ splits hK_ok hO_ok
  exact fn_lawF F byhand right box cells
end NB
end S_NbFin

open PySem PySem.W PySem.Calls PyProof.Rows
set_option maxRecDepth 100000 in
set_option maxHeartbeats 0 in
theorem PySem.Challenge.cw_everysource_k61_whole_means_over_and_nou_holds : PySem.Challenge.rw_everysource_k61_whole_means_over_and_nou.Holds := by
  w_on; o_law
  refine HandSHeadRun.head_imp (r := OpenLaw.row PySem.Challenge.rw_everysource_k61_whole_means_over_and_nou) (q := view (OpenLaw.row PySem.Challenge.rw_everysource_k61_whole_means_over_and_nou).prog [0, 52]) (H := NB.hk) (ob := NB.ob) (M := 6000) (loose := NB.loose) (d := HandSHeadRun.topDef (OpenLaw.row PySem.Challenge.rw_everysource_k61_whole_means_over_and_nou).prog 52) (kwd := []) NB.ob_eq NB.run
    (by kernel_rfl) (by kernel_rfl) (by kernel_rfl) (by rfl) (by first | assumption | decide +kernel) (by decide +kernel) ⟨rfl, rfl, rfl, rfl, rfl, by decide +kernel⟩ ?hw ?hc
  case hw => w_witness2
  case hc =>
    refine LamX.walk_ofTsE (l := PySem.Challenge.rw_everysource_k61_whole_means_over_and_nou) (n := 63) (k := 16) (x := "_law_script") (CX := fun _ => L2.CX0) rfl (by decide) (by kernel_rfl) ⟨rfl, by decide, by decide⟩ ?F (fun _ _ _ _ _ z => z)
    intro w mg fa h Y G hmg0
    obtain ⟨K, KX, c⟩ := Y
    refine ⟨K, KX, ?_⟩
    have hmg : mg ("law" : PySem.Str) = some (.ref fa) := by
      have e : (HandSHeadRun.topDef (OpenLaw.row PySem.Challenge.rw_everysource_k61_whole_means_over_and_nou).prog 52).name = ("law" : PySem.Str) := by kernel_rfl
      rw [← e]
      exact hmg0
    have W := NB.wd_of KX G c
    have p0 : (("_law_spring", none) : He.Defn) ∈ [(("_law_spring", none) : He.Defn)] := List.mem_singleton.mpr rfl
    obtain ⟨fd, F⟩ := c.t.d.def_ 40 (d := NB.mkD "law" 52)
    have fe : fa = He.fAd K ("law", none) := by
      have e2 := (NB.mg_has (x := "law") KX G c (by decide +kernel)).symm.trans hmg
      cases e2
      rfl
    subst fe
    have bA := L2.FunD.bindsA (ps := ["_law_script"]) F fun _ _ _ _ _ _ us hl => match us, hl with | [_], _ => rfl
    refine ⟨fd, [He.cT K ("_law_spring", none)], NB.spLF K (He.cT K ("_law_spring", none)).2, fun p hp => ?_, fun p hp => ?_, fun p hp => ?_, fun s u => bA s [u] rfl, fun H a ns hl hb ht hS => ⟨ns, a, rfl, hS, ht _ (List.mem_singleton.mpr rfl), fun H' => rfl⟩, fun base hK hG TB => ?_⟩
    · rw [List.mem_singleton.mp hp]; exact c.empty _ p0
    · rw [List.mem_singleton.mp hp]; exact c.out _ p0
    · rw [List.mem_singleton.mp hp]; exact PySem.W.codeHd_of_K KX (c.hd _ p0)
    · exact NB.fn_all (P := (PySem.Challenge.rw_everysource_k61_whole_means_over_and_nou).prog) (w := w) (base := base) W F (TB _ (List.mem_singleton.mpr rfl))
