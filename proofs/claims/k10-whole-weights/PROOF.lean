import PyProof.Rows.All
import Wide.All
import OpenK.AllK
import Wide.FinOn
import HandS.ForMost
import HandS.Evl
import HandS.IsInst
import HandS.TupAny
import PySem.Challenge.RW_tallsits_k10_whole_weights
import KE.GoesMore
import KE.GoesEnum
import HandS.SetFor
import HandS.Strs
import KE.SortData
import KE.DataMinMax
import HandS.Star
import HandS.WordsExc
import HandS.ExcIs
import HandS.ExcOwn
import HandS.Style
import HandS.Iter
import HandS.Conv
import HandS.Walk
import KE.KDictDisplayH
import HandS.Lambda
import HandS.EndTab
import KE.KStateDown
import HandS.Base
import HandS.Call
import HandS.Ends
import HandS.More
import HandS.Words
import HandS.Defaults
import HandS.Head0
import HandS.Head1
import HandS.Head2
import HandS.HeadEnd
import HandS.HeadHook1
import HandS.HeadHook2
import HandS.HeadHook3
import HandS.HeadHook4
import HandS.HeadWalk
set_option Elab.async false
set_option linter.all false
set_option maxRecDepth 100000
set_option maxHeartbeats 4000000
/-! data over the abstract heap, judgements with the value told -/
namespace TJ
open PySem PySem.Spec PyProof.Rows L2
open Evl (Ex fresh_back)

/-! ### data that is tracked -/
mutual
inductive Tp (H : Hp) : V → PyData → Prop
  | non : Tp H .non .none
  | bl (b : Bool) : Tp H (.bl b) (.bool b)
  | int (i : Int) : Tp H (.int i) (.int i)
  | lst {a : Addr} {xs : List V} {ds : List PyData} : H a = some (.lst xs) → TpA H xs ds → Tp H (.ref a) (.list ds)
  | tup {a : Addr} {xs : List V} {ds : List PyData} : H a = some (.tup xs) → TpA H xs ds → Tp H (.ref a) (.tuple ds)
inductive TpA (H : Hp) : List V → List PyData → Prop
  | nil : TpA H [] []
  | cons {v : V} {vs : List V} {d : PyData} {ds : List PyData} : Tp H v d → TpA H vs ds → TpA H (v :: vs) (d :: ds)
end
section
variable {H H' : Hp}
mutual
theorem Tp.mp (k : ∀ a xs, H a = some (.tup xs) → H' a = some (.tup xs)) (l : ∀ a xs, H a = some (.lst xs) → H' a = some (.lst xs)) : ∀ (d : PyData) (v : V), Tp H v d → Tp H' v d
  | .none, _, h => by cases h; exact .non
  | .bool b, _, h => by cases h; exact .bl b
  | .int i, _, h => by cases h; exact .int i
  | .str x, _, h => by cases h
  | .list ds, _, h => by
    cases h with
    | lst h1 h2 => exact .lst (l _ _ h1) (TpA.mp k l ds _ h2)
  | .tuple ds, _, h => by
    cases h with
    | tup h1 h2 => exact .tup (k _ _ h1) (TpA.mp k l ds _ h2)
  | .dict _, _, h => by cases h
theorem TpA.mp (k : ∀ a xs, H a = some (.tup xs) → H' a = some (.tup xs)) (l : ∀ a xs, H a = some (.lst xs) → H' a = some (.lst xs)) : ∀ (ds : List PyData) (vs : List V), TpA H vs ds → TpA H' vs ds
  | [], _, h => by cases h; exact .nil
  | d :: ds, _, h => by
    cases h with
    | cons h1 h2 => exact .cons (Tp.mp k l d _ h1) (TpA.mp k l ds _ h2)
end
theorem Tp.ex {d : PyData} {v : V} (h : Tp H v d) (e : Ex H H') : Tp H' v d := h.mp (fun a _ q => e a _ q) (fun a _ q => e a _ q)
theorem TpA.ex {ds : List PyData} {vs : List V} (h : TpA H vs ds) (e : Ex H H') : TpA H' vs ds := h.mp (fun a _ q => e a _ q) (fun a _ q => e a _ q)
/- no list in it -/
mutual
def flt : PyData → Bool
  | .list _ => false
  | .tuple ds => fltA ds
  | .dict _ => false
  | _ => true
def fltA : List PyData → Bool
  | [] => true
  | d :: ds => flt d && fltA ds
end
theorem flt_cons {d : PyData} {ds : List PyData} (h : fltA (d :: ds) = true) : flt d = true ∧ fltA ds = true := by
  rw [fltA, Bool.and_eq_true] at h
  exact h
mutual
theorem Tp.mt (k : ∀ a xs, H a = some (.tup xs) → H' a = some (.tup xs)) : ∀ (d : PyData) (v : V), flt d = true → Tp H v d → Tp H' v d
  | .none, _, _, h => by cases h; exact .non
  | .bool b, _, _, h => by cases h; exact .bl b
  | .int i, _, _, h => by cases h; exact .int i
  | .str x, _, _, h => by cases h
  | .list ds, _, f, h => by simp [flt] at f
  | .tuple ds, _, f, h => by
    cases h with
    | tup h1 h2 => exact .tup (k _ _ h1) (TpA.mt k ds _ (by simpa [flt] using f) h2)
  | .dict _, _, _, h => by cases h
theorem TpA.mt (k : ∀ a xs, H a = some (.tup xs) → H' a = some (.tup xs)) : ∀ (ds : List PyData) (vs : List V), fltA ds = true → TpA H vs ds → TpA H' vs ds
  | [], _, _, h => by cases h; exact .nil
  | d :: ds, _, f, h => by
    cases h with
    | cons h1 h2 => exact .cons (Tp.mt k d _ (flt_cons f).1 h1) (TpA.mt k ds _ (flt_cons f).2 h2)
end
/-- tuples stay -/
def Tx (H H' : Hp) : Prop := ∀ a xs, H a = some (.tup xs) → H' a = some (.tup xs)
theorem Tx.refl (H : Hp) : Tx H H := fun _ _ h => h
theorem Tx.trans {H1 : Hp} (a : Tx H H') (b : Tx H' H1) : Tx H H1 := fun x o h => b x o (a x o h)
theorem Tx.of (e : Ex H H') : Tx H H' := fun a _ h => e a _ h
theorem Tp.tx {d : PyData} {v : V} (h : Tp H v d) (e : Tx H H') (f : flt d = true := by rfl) : Tp H' v d := h.mt e _ _ f
theorem TpA.tx {ds : List PyData} {vs : List V} (h : TpA H vs ds) (e : Tx H H') (f : fltA ds = true := by rfl) : TpA H' vs ds := h.mt e _ _ f
theorem Tx.upd {a : Addr} {o : HO} (h : ∀ xs, H a ≠ some (.tup xs)) : Tx H (upd H a o) := fun b xs e => by
  have n : b ≠ a := fun z => by subst z; exact h xs e
  rw [upd_ne n]
  exact e
mutual
theorem Tp.dp {K : PySem.W.Frag} : ∀ (d : PyData) (v : V), Tp H v d → Dp K H v d
  | .none, _, h => by cases h; exact .non
  | .bool b, _, h => by cases h; exact .bl b
  | .int i, _, h => by cases h; exact .int i
  | .str x, _, h => by cases h
  | .list ds, _, h => by
    cases h with
    | lst h1 h2 => exact .lst (SqL.of h1) (TpA.dp ds _ h2)
  | .tuple ds, _, h => by
    cases h with
    | tup h1 h2 => exact .tup (SqT.of h1) (TpA.dp ds _ h2)
  | .dict _, _, h => by cases h
theorem TpA.dp {K : PySem.W.Frag} : ∀ (ds : List PyData) (vs : List V), TpA H vs ds → DpAll K H vs ds
  | [], _, h => by cases h; exact .nil
  | d :: ds, _, h => by
    cases h with
    | cons h1 h2 => exact .cons (Tp.dp d _ h1) (TpA.dp ds _ h2)
end
theorem TpA.len : ∀ {ds : List PyData} {vs : List V}, TpA H vs ds → vs.length = ds.length
  | _, _, .nil => rfl
  | _, _, .cons _ t => congrArg (· + 1) (TpA.len t)
theorem TpA.app : ∀ {ds es : List PyData} {vs us : List V}, TpA H vs ds → TpA H us es → TpA H (vs ++ us) (ds ++ es)
  | _, _, _, _, .nil, h => h
  | _, _, _, _, .cons a t, h => .cons a (TpA.app t h)
theorem TpA.snoc {ds : List PyData} {d : PyData} {vs : List V} {v : V} (h : TpA H vs ds) (hv : Tp H v d) : TpA H (vs ++ [v]) (ds ++ [d]) := h.app (.cons hv .nil)
theorem TpA.at : ∀ {ds : List PyData} {vs : List V} {i : Nat} {d : PyData}, TpA H vs ds → ds[i]? = some d → ∃ v, vs[i]? = some v ∧ Tp H v d
  | _, _, _, _, .nil, e => by simp at e
  | _, _, 0, _, .cons a t, e => by simp at e; subst e; exact ⟨_, rfl, a⟩
  | _, _, i + 1, _, .cons a t, e => by
    obtain ⟨v, h1, h2⟩ := TpA.at (i := i) t (by simpa using e)
    exact ⟨v, by simpa using h1, h2⟩
theorem TpA.at' : ∀ {ds : List PyData} {vs : List V} {i : Nat} {v : V}, TpA H vs ds → vs[i]? = some v → ∃ d, ds[i]? = some d ∧ Tp H v d
  | _, _, _, _, .nil, e => by simp at e
  | _, _, 0, _, .cons a t, e => by simp at e; subst e; exact ⟨_, rfl, a⟩
  | _, _, i + 1, _, .cons a t, e => by
    obtain ⟨v, h1, h2⟩ := TpA.at' (i := i) t (by simpa using e)
    exact ⟨v, by simpa using h1, h2⟩
theorem TpA.ints : ∀ {l : List Int} {vs : List V}, TpA H vs (l.map .int) → vs = l.map V.int
  | [], _, h => by cases h; rfl
  | i :: l, _, h => by
    have h' : TpA H _ (.int i :: l.map .int) := h
    cases h' with
    | cons a t => cases a; rw [TpA.ints t]; rfl
theorem TpA.bools : ∀ {l : List Bool} {vs : List V}, TpA H vs (l.map .bool) → vs = l.map V.bl
  | [], _, h => by cases h; rfl
  | i :: l, _, h => by
    have h' : TpA H _ (.bool i :: l.map .bool) := h
    cases h' with
    | cons a t => cases a; rw [TpA.bools t]; rfl
theorem tpA_ints : ∀ (l : List Int), TpA H (l.map V.int) (l.map .int)
  | [] => .nil
  | i :: l => .cons (.int i) (tpA_ints l)
theorem tp_tup {v : V} {ds : List PyData} (h : Tp H v (.tuple ds)) : ∃ a xs, v = .ref a ∧ H a = some (.tup xs) ∧ TpA H xs ds := by
  cases h with
  | tup a b => exact ⟨_, _, rfl, a, b⟩
theorem tp_lst {v : V} {ds : List PyData} (h : Tp H v (.list ds)) : ∃ a xs, v = .ref a ∧ H a = some (.lst xs) ∧ TpA H xs ds := by
  cases h with
  | lst a b => exact ⟨_, _, rfl, a, b⟩
theorem tp_int {v : V} {i : Int} (h : Tp H v (.int i)) : v = .int i := by cases h; rfl
theorem tp_bl {v : V} {i : Bool} (h : Tp H v (.bool i)) : v = .bl i := by cases h; rfl
theorem tp_non {v : V} (h : Tp H v .none) : v = .non := by cases h; rfl
end

/-! ### the data met here -/
def dI (l : List Int) : PyData := .tuple (l.map .int)
def dW (W : List (List Int)) : PyData := .tuple (W.map dI)
def dL (l : List Int) : PyData := .list (l.map .int)
def dB (l : List Bool) : PyData := .list (l.map .bool)
def dR (R : List (List Int)) : PyData := .list (R.map dI)
def dP (p : Int × List Int) : PyData := .tuple [.int p.1, dI p.2]
def dPs (R : List (Int × List Int)) : PyData := .list (R.map dP)
theorem fltA_map {α : Type} (f : α → PyData) (h : ∀ a, flt (f a) = true) : ∀ l : List α, fltA (l.map f) = true
  | [] => by simp [fltA]
  | a :: l => by
    show fltA (f a :: l.map f) = true
    rw [fltA, h a, fltA_map f h l]
    rfl
theorem flt_I (l : List Int) : flt (dI l) = true := by
  unfold dI
  rw [flt]
  exact fltA_map _ (fun _ => by simp [flt]) l
theorem flt_W (W : List (List Int)) : flt (dW W) = true := by
  unfold dW
  rw [flt]
  exact fltA_map _ flt_I W
theorem flt_P (p : Int × List Int) : flt (dP p) = true := by
  unfold dP
  rw [flt, fltA, fltA, fltA, flt_I]
  simp [flt]
theorem flt_int (i : Int) : flt (.int i) = true := by simp [flt]
theorem flt_bool (i : Bool) : flt (.bool i) = true := by simp [flt]

/-! ### an expression and the value that it gives -/
section
variable {X : Cx} {e a b c : Expr} {σ : L2.St} {H : Hp} {pos : Pos}
def tP (σ : L2.St) (H : Hp) (φ : V → Hp → Prop) : TE := fun σ' H1 Q => σ' = σ ∧ Ex H H1 ∧ ∀ v H2, Ex H1 H2 → φ v H2 → Q v H2
abbrev tD (σ : L2.St) (H : Hp) (d : PyData) : TE := tP σ H fun v H2 => Tp H2 v d
abbrev tV (σ : L2.St) (H : Hp) (v0 : V) : TE := tP σ H fun v _ => v = v0
abbrev JD (X : Cx) (e : Expr) (σ : L2.St) (H : Hp) (d : PyData) : Prop := PE X e (tD σ H d)
abbrev JV (X : Cx) (e : Expr) (σ : L2.St) (H : Hp) (v0 : V) : Prop := PE X e (tV σ H v0)
def tT (σ : L2.St) (H : Hp) (b : Bool) : TT := fun σ' H1 Q => σ' = σ ∧ Ex H H1 ∧ ∀ H2, Ex H1 H2 → Q b H2
abbrev JT (X : Cx) (e : Expr) (σ : L2.St) (H : Hp) (b : Bool) : Prop := PT X e (tT σ H b)
abbrev JW (X : Cx) (e : Expr) (σ : L2.St) (H : Hp) (b : Bool) : Prop := PW X e (tT σ H b)
def tA (σ : L2.St) (H : Hp) (ds : List PyData) : TA := fun σ' H1 Q => σ' = σ ∧ Ex H H1 ∧ ∀ vs H2, Ex H1 H2 → TpA H2 vs ds → Q vs H2
abbrev JA (X : Cx) (es : List Expr) (σ : L2.St) (H : Hp) (ds : List PyData) : Prop := PA X es (tA σ H ds)

theorem PE.cq {t t' : TE} (h : PE X e t) (k : ∀ σ H Q, t' σ H Q → t σ H Q) : PE X e t' := ⟨fun pins s σ H Q I q => h.run pins s σ H Q I (k σ H Q q)⟩
theorem PT.cq {t t' : TT} (h : PT X e t) (k : ∀ σ H Q, t' σ H Q → t σ H Q) : PT X e t' := ⟨fun pins s σ H Q I q => h.run pins s σ H Q I (k σ H Q q)⟩
theorem PW.cq {t t' : TT} (h : PW X e t) (k : ∀ σ H Q, t' σ H Q → t σ H Q) : PW X e t' := ⟨fun wh pins s σ H Q I q => h.run wh pins s σ H Q I (k σ H Q q)⟩
theorem PA.cq {es : List Expr} {t t' : TA} (h : PA X es t) (k : ∀ σ H Q, t' σ H Q → t σ H Q) : PA X es t' := ⟨fun pos pins s σ H Q I q => h.run pos pins s σ H Q I (k σ H Q q)⟩
theorem PE.fam {ι : Sort _} {t : ι → TE} (h : ∀ i, PE X e (t i)) : PE X e (fun σ H Q => ∃ i, t i σ H Q) := ⟨fun pins s σ H Q I ⟨i, q⟩ => (h i).run pins s σ H Q I q⟩
theorem PT.fam {ι : Sort _} {t : ι → TT} (h : ∀ i, PT X e (t i)) : PT X e (fun σ H Q => ∃ i, t i σ H Q) := ⟨fun pins s σ H Q I ⟨i, q⟩ => (h i).run pins s σ H Q I q⟩
theorem PTs.fam {ι : Sort _} {es : List Expr} {t : ι → TT} (h : ∀ i, PTs X es (t i)) : PTs X es (fun σ H Q => ∃ i, t i σ H Q) := ⟨fun pins s σ H Q I ⟨i, q⟩ => (h i).run pins s σ H Q I q⟩
theorem PTs.cq {es : List Expr} {t t' : TT} (h : PTs X es t) (k : ∀ σ H Q, t' σ H Q → t σ H Q) : PTs X es t' := ⟨fun pins s σ H Q I q => h.run pins s σ H Q I (k σ H Q q)⟩

/-! names, constants -/
theorem jv_var (i : Nat) {x : Str} {v : V} (hs : σ[i]? = some (some v)) (hN : X.N[i]? = some x := by rfl) (hv : Vis X.env.scope x := by first | exact Or.inl rfl | exact Or.inr (Or.inl rfl) | exact Or.inr (Or.inr rfl))
    (hd : (x == ("__debug__" : Str)) = false := by decide) (hcd : (x == ("__classdict__" : Str)) = false := by decide) : JV X (.Name x pos) σ H v := by
  refine PE.cq (pe_var hN hv hd hcd) fun σ' H1 Q q => ?_
  obtain ⟨rfl, e1, q⟩ := q
  exact ⟨v, hs, q v H1 (Ex.refl _) rfl⟩
theorem jd_v {v : V} {d : PyData} (h : JV X e σ H v) (hv : Tp H v d) : JD X e σ H d := PE.cq h fun σ' H1 Q q => by
  obtain ⟨rfl, e1, q⟩ := q
  exact ⟨rfl, e1, fun v' H2 e2 z => by subst z; exact q v' H2 e2 (hv.ex (e1.trans e2))⟩
theorem jd_var (i : Nat) {x : Str} {v : V} {d : PyData} (hv : Tp H v d) (hs : σ[i]? = some (some v) := by rfl) (hN : X.N[i]? = some x := by rfl) (hvis : Vis X.env.scope x := by first | exact Or.inl rfl | exact Or.inr (Or.inl rfl) | exact Or.inr (Or.inr rfl))
    (hd : (x == ("__debug__" : Str)) = false := by decide) (hcd : (x == ("__classdict__" : Str)) = false := by decide) : JD X (.Name x pos) σ H d := jd_v (jv_var i hs hN hvis hd hcd) hv
theorem jd_int {i : Int} {j} : JD X (.Constant (.int i) j pos) σ H (.int i) := PE.cq pe_int fun σ' H1 Q q => by
  obtain ⟨rfl, e1, q⟩ := q
  exact q _ _ (Ex.refl _) (.int i)
theorem jd_bl {i : Bool} {j} : JD X (.Constant (.bool i) j pos) σ H (.bool i) := PE.cq pe_bl fun σ' H1 Q q => by
  obtain ⟨rfl, e1, q⟩ := q
  exact q _ _ (Ex.refl _) (.bl i)
theorem jd_non {j} : JD X (.Constant .none j pos) σ H .none := PE.cq pe_non fun σ' H1 Q q => by
  obtain ⟨rfl, e1, q⟩ := q
  exact q _ _ (Ex.refl _) .non
theorem jd_globI {x : Str} {i : Int} {t : Tok} (hm : X.mg x = some (.int i t)) (hg : Gl X x := by rfl) (hd : (x == ("__debug__" : Str)) = false := by decide) : JD X (.Name x pos) σ H (.int i) := PE.cq (pe_glob (v := .int i) hg hm ⟨t, rfl⟩ hd) fun σ' H1 Q q => by
  obtain ⟨rfl, e1, q⟩ := q
  exact q _ _ (Ex.refl _) (.int i)
theorem jd_is {d d' : PyData} (h : JD X e σ H d) (eq : d = d') : JD X e σ H d' := eq ▸ h
theorem jt_is {d d' : Bool} (h : JT X e σ H d) (eq : d = d') : JT X e σ H d' := eq ▸ h
theorem JD.ex {H' : Hp} {d : PyData} (h : JD X e σ H d) (x : Ex H H') : JD X e σ H' d := PE.cq h fun σ' H1 Q q => ⟨q.1, x.trans q.2.1, q.2.2⟩

/-! operators -/
/-- what a two-place rule gives of data -/
def Op2 (r : R2) (da db d : PyData) : Prop := ∀ x y H1 Q, Tp H1 x da → Tp H1 y db → (∀ v H2, Ex H1 H2 → Tp H2 v d → Q v H2) → r x y H1 Q
theorem jd_op {op : Operator} {r : R2} {da db d : PyData} (ho : OpR X (binaryOp op) r) (k : Op2 r da db d) (ha : JD X a σ H da) (hb : JD X b σ H db) : JD X (.BinOp a op b pos) σ H d := PE.cq (pe_op ho ha hb) fun σ' H1 Q q => by
  obtain ⟨rfl, e1, q⟩ := q
  exact ⟨rfl, e1, fun x H2 e2 hx => ⟨rfl, e1.trans e2, fun y H3 e3 hy => k x y H3 Q (hx.ex e3) hy fun v H4 e4 hv => q v H4 ((e2.trans e3).trans e4) hv⟩⟩
theorem jd_cmp {op : CmpOp} {r : R2} {da db d : PyData} (ho : OpR X (compareOp op) r) (k : Op2 r da db d) (ha : JD X a σ H da) (hb : JD X b σ H db) (hm : behindInMarks op b = false := by first | exact nomark _ | rfl) : JD X (.Compare a [op] [b] pos) σ H d := PE.cq (pe_cmpR ho ha hb hm) fun σ' H1 Q q => by
  obtain ⟨rfl, e1, q⟩ := q
  exact ⟨rfl, e1, fun x H2 e2 hx => ⟨rfl, e1.trans e2, fun y H3 e3 hy => k x y H3 Q (hx.ex e3) hy fun v H4 e4 hv => q v H4 ((e2.trans e3).trans e4) hv⟩⟩
theorem jt_cmp {op : CmpOp} {r : R2} {da db : PyData} {k0 : Bool} (ho : OpR X (compareOp op) r) (k : Op2 r da db (.bool k0)) (ha : JD X a σ H da) (hb : JD X b σ H db) (hm : behindInMarks op b = false := by first | exact nomark _ | rfl) : JT X (.Compare a [op] [b] pos) σ H k0 := PT.cq (pt_cmpR ho ha hb hm) fun σ' H1 Q q => by
  obtain ⟨rfl, e1, q⟩ := q
  exact ⟨rfl, e1, fun x H2 e2 hx => ⟨rfl, e1.trans e2, fun y H3 e3 hy => k x y H3 _ (hx.ex e3) hy fun v H4 e4 hv => ⟨k0, tp_bl hv, q H4 ((e2.trans e3).trans e4)⟩⟩⟩
theorem k_I0 {g : Int → Int → Int} {i j : Int} : Op2 (rI0 fun i j => .int (g i j)) (.int i) (.int j) (.int (g i j)) := fun x y H1 Q hx hy q => by
  rw [tp_int hx, tp_int hy]
  exact ⟨i, j, rfl, rfl, q _ _ (Ex.refl _) (.int _)⟩
theorem k_B0 {g : Int → Int → Bool} {i j : Int} : Op2 (rI0 fun i j => .bl (g i j)) (.int i) (.int j) (.bool (g i j)) := fun x y H1 Q hx hy q => by
  rw [tp_int hx, tp_int hy]
  exact ⟨i, j, rfl, rfl, q _ _ (Ex.refl _) (.bl _)⟩
theorem k_I {C : Int → Int → Prop} {g : Int → Int → Int} {i j : Int} (hc : C i j) : Op2 (rI C fun i j => .int (g i j)) (.int i) (.int j) (.int (g i j)) := fun x y H1 Q hx hy q => by
  rw [tp_int hx, tp_int hy]
  exact ⟨i, j, rfl, rfl, hc, q _ _ (Ex.refl _) (.int _)⟩
theorem jd_add {i j : Int} (ha : JD X a σ H (.int i)) (hb : JD X b σ H (.int j)) : JD X (.BinOp a .Add b pos) σ H (.int (i + j)) := jd_op op_add k_I0 ha hb
theorem jd_sub {i j : Int} (ha : JD X a σ H (.int i)) (hb : JD X b σ H (.int j)) : JD X (.BinOp a .Sub b pos) σ H (.int (i - j)) := jd_op op_sub k_I0 ha hb
theorem jd_mul {i j : Int} (ha : JD X a σ H (.int i)) (hb : JD X b σ H (.int j)) (hc : CMul i j) : JD X (.BinOp a .Mult b pos) σ H (.int (i * j)) := jd_op op_mul (k_I hc) ha hb
theorem jd_mod {i j : Int} (ha : JD X a σ H (.int i)) (hb : JD X b σ H (.int j)) (hc : 0 < j) : JD X (.BinOp a .Mod b pos) σ H (.int (i % j)) := jd_op op_mod (k_I (C := fun _ j => 0 < j) hc) ha hb
theorem jd_fdiv {i j : Int} (ha : JD X a σ H (.int i)) (hb : JD X b σ H (.int j)) (hc : CDiv i j) : JD X (.BinOp a .FloorDiv b pos) σ H (.int (i / j)) := jd_op op_fdiv (k_I hc) ha hb
theorem jd_pow {i j : Int} (ha : JD X a σ H (.int i)) (hb : JD X b σ H (.int j)) (hc : CPow i j) : JD X (.BinOp a .Pow b pos) σ H (.int (i ^ j.toNat)) := jd_op op_pow (k_I hc) ha hb
theorem jd_neg {i : Int} (ha : JD X a σ H (.int i)) : JD X (.UnaryOp .USub a pos) σ H (.int (-i)) := PE.cq (pe_un un_neg ha) fun σ' H1 Q q => by
  obtain ⟨rfl, e1, q⟩ := q
  exact ⟨rfl, e1, fun x H2 e2 hx => ⟨i, tp_int hx, q _ _ e2 (.int _)⟩⟩
theorem jt_lt {i j : Int} (ha : JD X a σ H (.int i)) (hb : JD X b σ H (.int j)) : JT X (.Compare a [.Lt] [b] pos) σ H (decide (i < j)) := jt_cmp op_lt k_B0 ha hb
theorem jt_le {i j : Int} (ha : JD X a σ H (.int i)) (hb : JD X b σ H (.int j)) : JT X (.Compare a [.LtE] [b] pos) σ H (decide (i ≤ j)) := jt_cmp op_le k_B0 ha hb
theorem jt_gt {i j : Int} (ha : JD X a σ H (.int i)) (hb : JD X b σ H (.int j)) : JT X (.Compare a [.Gt] [b] pos) σ H (decide (j < i)) := jt_cmp op_gt k_B0 ha hb
theorem jt_ge {i j : Int} (ha : JD X a σ H (.int i)) (hb : JD X b σ H (.int j)) : JT X (.Compare a [.GtE] [b] pos) σ H (decide (j ≤ i)) := jt_cmp op_ge k_B0 ha hb
theorem jd_lt {i j : Int} (ha : JD X a σ H (.int i)) (hb : JD X b σ H (.int j)) : JD X (.Compare a [.Lt] [b] pos) σ H (.bool (decide (i < j))) := jd_cmp op_lt k_B0 ha hb
theorem jd_gt {i j : Int} (ha : JD X a σ H (.int i)) (hb : JD X b σ H (.int j)) : JD X (.Compare a [.Gt] [b] pos) σ H (.bool (decide (j < i))) := jd_cmp op_gt k_B0 ha hb
theorem jd_ge {i j : Int} (ha : JD X a σ H (.int i)) (hb : JD X b σ H (.int j)) : JD X (.Compare a [.GtE] [b] pos) σ H (.bool (decide (j ≤ i))) := jd_cmp op_ge k_B0 ha hb
/-- == and != of data -/
theorem k_eqD {K : PySem.W.Frag} {d d' : PyData} (h1 : SeqAt.shaped d = true) (h2 : SeqAt.shaped d' = true) : Op2 (rEqD K) d d' (.bool (PyData.eqv d d')) := fun x y H1 Q hx hy q =>
  ⟨d, d', hx.dp, hy.dp, h1, h2, q _ _ (Ex.refl _) (.bl _)⟩
theorem k_neD {K : PySem.W.Frag} {d d' : PyData} (h1 : SeqAt.shaped d = true) (h2 : SeqAt.shaped d' = true) : Op2 (rNeD K) d d' (.bool (!PyData.eqv d d')) := fun x y H1 Q hx hy q =>
  ⟨d, d', hx.dp, hy.dp, h1, h2, q _ _ (Ex.refl _) (.bl _)⟩
/-- in, not in a tuple of ints -/
theorem inV_ints (i : Int) : ∀ l : List Int, inV (.int i) (l.map V.int) = decide (i ∈ l)
  | [] => by simp [inV]
  | j :: l => by
    have ih := inV_ints i l
    unfold inV at ih ⊢
    rw [List.map_cons, List.any_cons, ih]
    by_cases h : j = i
    · subst h; simp [eqV]
    · have h2 : ¬ i = j := fun z => h z.symm
      simp [eqV, h, h2]
theorem flat_ints (l : List Int) : (l.map V.int).all flatV = true := by
  rw [List.all_eq_true]
  intro x hx
  obtain ⟨i, _, rfl⟩ := List.mem_map.mp hx
  rfl
theorem k_in {K : PySem.W.Frag} {i : Int} {l : List Int} : Op2 (rIn K false) (.int i) (dI l) (.bool (decide (i ∈ l))) := fun x y H1 Q hx hy q => by
  obtain ⟨p, xs, rfl, h1, h2⟩ := tp_tup hy
  rw [tp_int hx]
  rw [h2.ints] at h1
  refine ⟨p, _, rfl, .inr (SqT.of h1), rfl, flat_ints l, ?_⟩
  show Q (.bl (inV (.int i) (l.map V.int))) H1
  rw [inV_ints]
  exact q _ _ (Ex.refl _) (.bl _)
theorem k_notin {K : PySem.W.Frag} {i : Int} {l : List Int} : Op2 (rIn K true) (.int i) (dI l) (.bool (!decide (i ∈ l))) := fun x y H1 Q hx hy q => by
  obtain ⟨p, xs, rfl, h1, h2⟩ := tp_tup hy
  rw [tp_int hx]
  rw [h2.ints] at h1
  refine ⟨p, _, rfl, .inr (SqT.of h1), rfl, flat_ints l, ?_⟩
  show Q (.bl (!inV (.int i) (l.map V.int))) H1
  rw [inV_ints]
  exact q _ _ (Ex.refl _) (.bl _)
theorem jt_in {i : Int} {l : List Int} (ha : JD X a σ H (.int i)) (hb : JD X b σ H (dI l)) (hm : behindInMarks .In b = false := by rfl) : JT X (.Compare a [.In] [b] pos) σ H (decide (i ∈ l)) := jt_cmp op_in_seq k_in ha hb hm
theorem jt_notin {i : Int} {l : List Int} (ha : JD X a σ H (.int i)) (hb : JD X b σ H (dI l)) (hm : behindInMarks .NotIn b = false := by rfl) : JT X (.Compare a [.NotIn] [b] pos) σ H (!decide (i ∈ l)) := jt_cmp op_notIn_seq k_notin ha hb hm
theorem jd_in {i : Int} {l : List Int} (ha : JD X a σ H (.int i)) (hb : JD X b σ H (dI l)) (hm : behindInMarks .In b = false := by rfl) : JD X (.Compare a [.In] [b] pos) σ H (.bool (decide (i ∈ l))) := jd_cmp op_in_seq k_in ha hb hm
theorem jd_notin {i : Int} {l : List Int} (ha : JD X a σ H (.int i)) (hb : JD X b σ H (dI l)) (hm : behindInMarks .NotIn b = false := by rfl) : JD X (.Compare a [.NotIn] [b] pos) σ H (.bool (!decide (i ∈ l))) := jd_cmp op_notIn_seq k_notin ha hb hm

/-! and, or, not, if -/
theorem jd_one {op} {d : PyData} (h : JD X a σ H d) : JD X (.BoolOp op [a] pos) σ H d := pe_one h
theorem jd_and {rest : List Expr} {x y : Bool} (ha : JD X a σ H (.bool x)) (hb : x = true → JD X (.BoolOp .And (b :: rest) pos) σ H (.bool y)) : JD X (.BoolOp .And (a :: b :: rest) pos) σ H (.bool (x && y)) := by
  cases x with
  | true =>
    refine PE.cq (pe_and ha (hb rfl)) fun σ' H1 Q q => ?_
    obtain ⟨rfl, e1, q⟩ := q
    exact ⟨rfl, e1, fun v H2 e2 hv => ⟨true, tp_bl hv, iteT (⟨rfl, e1.trans e2, fun w H3 e3 hw => q w H3 (e2.trans e3) hw⟩)⟩⟩
  | false =>
    refine PE.cq (pe_and ha (PE.mk (t := fun _ _ _ => False) fun _ _ _ _ _ _ z => z.elim)) fun σ' H1 Q q => ?_
    obtain ⟨rfl, e1, q⟩ := q
    exact ⟨rfl, e1, fun v H2 e2 hv => ⟨false, tp_bl hv, iteF (q _ H2 e2 (.bl _))⟩⟩
theorem jd_or {rest : List Expr} {x y : Bool} (ha : JD X a σ H (.bool x)) (hb : x = false → JD X (.BoolOp .Or (b :: rest) pos) σ H (.bool y)) : JD X (.BoolOp .Or (a :: b :: rest) pos) σ H (.bool (x || y)) := by
  cases x with
  | false =>
    refine PE.cq (pe_or ha (hb rfl)) fun σ' H1 Q q => ?_
    obtain ⟨rfl, e1, q⟩ := q
    exact ⟨rfl, e1, fun v H2 e2 hv => ⟨false, tp_bl hv, iteF (⟨rfl, e1.trans e2, fun w H3 e3 hw => q w H3 (e2.trans e3) hw⟩)⟩⟩
  | true =>
    refine PE.cq (pe_or ha (PE.mk (t := fun _ _ _ => False) fun _ _ _ _ _ _ z => z.elim)) fun σ' H1 Q q => ?_
    obtain ⟨rfl, e1, q⟩ := q
    exact ⟨rfl, e1, fun v H2 e2 hv => ⟨true, tp_bl hv, iteT (q _ H2 e2 (.bl _))⟩⟩
theorem jd_not {x : Bool} (ha : JD X a σ H (.bool x)) : JD X (.UnaryOp .Not a pos) σ H (.bool (!x)) := PE.cq (pe_not ha) fun σ' H1 Q q => by
  obtain ⟨rfl, e1, q⟩ := q
  exact ⟨rfl, e1, fun v H2 e2 hv => ⟨x, tp_bl hv, q _ H2 e2 (.bl _)⟩⟩
theorem jt_val {x : Bool} (h : JD X e σ H (.bool x)) (he : ∀ whole, isTrue e X.env whole = (do let v ← whole; standAt e.pos; holding [v] (truthy v)) := by intro _; rfl) : JT X e σ H x := PT.cq (pt_val h he) fun σ' H1 Q q => by
  obtain ⟨rfl, e1, q⟩ := q
  exact ⟨rfl, e1, fun v H2 e2 hv => ⟨x, tp_bl hv, q H2 e2⟩⟩
theorem jt_not {x : Bool} (ha : JT X a σ H x) : JT X (.UnaryOp .Not a pos) σ H (!x) := PT.cq (pt_not ha) fun σ' H1 Q q => by
  obtain ⟨rfl, e1, q⟩ := q
  exact ⟨rfl, e1, fun H2 e2 => q H2 e2⟩
theorem jw_and1 {x : Bool} (ha : JT X a σ H x) : JW X (.BoolOp .And [a] pos) σ H x := pw_and1 ha
theorem jw_or1 {x : Bool} (ha : JT X a σ H x) : JW X (.BoolOp .Or [a] pos) σ H x := pw_or1 ha
theorem jw_and {rest : List Expr} {x y : Bool} (ha : JT X a σ H x) (hb : x = true → JW X (.BoolOp .And (b :: rest) pos) σ H y) : JW X (.BoolOp .And (a :: b :: rest) pos) σ H (x && y) := by
  cases x with
  | true =>
    refine PW.cq (pw_and ha (hb rfl)) fun σ' H1 Q q => ?_
    obtain ⟨rfl, e1, q⟩ := q
    exact ⟨rfl, e1, fun H2 e2 => iteT (⟨rfl, e1.trans e2, fun H3 e3 => q H3 (e2.trans e3)⟩)⟩
  | false =>
    refine PW.cq (pw_and ha (PW.mk (t := fun _ _ _ => False) fun _ _ _ _ _ _ _ z => z.elim)) fun σ' H1 Q q => ?_
    obtain ⟨rfl, e1, q⟩ := q
    exact ⟨rfl, e1, fun H2 e2 => iteF (q H2 e2)⟩
theorem jw_or {rest : List Expr} {x y : Bool} (ha : JT X a σ H x) (hb : x = false → JW X (.BoolOp .Or (b :: rest) pos) σ H y) : JW X (.BoolOp .Or (a :: b :: rest) pos) σ H (x || y) := by
  cases x with
  | false =>
    refine PW.cq (pw_or ha (hb rfl)) fun σ' H1 Q q => ?_
    obtain ⟨rfl, e1, q⟩ := q
    exact ⟨rfl, e1, fun H2 e2 => iteF (⟨rfl, e1.trans e2, fun H3 e3 => q H3 (e2.trans e3)⟩)⟩
  | true =>
    refine PW.cq (pw_or ha (PW.mk (t := fun _ _ _ => False) fun _ _ _ _ _ _ _ z => z.elim)) fun σ' H1 Q q => ?_
    obtain ⟨rfl, e1, q⟩ := q
    exact ⟨rfl, e1, fun H2 e2 => iteT (q H2 e2)⟩
theorem jt_and {x y : Bool} (ha : JT X a σ H x) (hb : x = true → JT X b σ H y) : JT X (.BoolOp .And [a, b] pos) σ H (x && y) := (jw_and ha fun z => jw_and1 (hb z)).pt
theorem jt_or {x y : Bool} (ha : JT X a σ H x) (hb : x = false → JT X b σ H y) : JT X (.BoolOp .Or [a, b] pos) σ H (x || y) := (jw_or ha fun z => jw_or1 (hb z)).pt
theorem jd_ite {x : Bool} {d : PyData} (hc : JT X c σ H x) (ha : x = true → JD X a σ H d) (hb : x = false → JD X b σ H d) : JD X (.IfExp c a b pos) σ H d := by
  cases x with
  | true =>
    refine PE.cq (pe_ifExp hc (ha rfl) (PE.mk (t := fun _ _ _ => False) fun _ _ _ _ _ _ z => z.elim)) fun σ' H1 Q q => ?_
    obtain ⟨rfl, e1, q⟩ := q
    exact ⟨rfl, e1, fun H2 e2 => iteT (⟨rfl, e1.trans e2, fun w H3 e3 hw => q w H3 (e2.trans e3) hw⟩)⟩
  | false =>
    refine PE.cq (pe_ifExp hc (PE.mk (t := fun _ _ _ => False) fun _ _ _ _ _ _ z => z.elim) (hb rfl)) fun σ' H1 Q q => ?_
    obtain ⟨rfl, e1, q⟩ := q
    exact ⟨rfl, e1, fun H2 e2 => iteF (⟨rfl, e1.trans e2, fun w H3 e3 hw => q w H3 (e2.trans e3) hw⟩)⟩
end
end TJ
set_option Elab.async false
set_option linter.all false
set_option maxRecDepth 100000
set_option maxHeartbeats 4000000
namespace TJ
open PySem PySem.Spec PyProof.Rows L2
open Evl (Ex fresh_back)

theorem Ex.nw {H : Hp} {p : Addr} {o : HO} (h : H p = none) : Ex H (upd H p o) := Evl.Ex.new h
theorem sz1 {n : Nat} (h : n ≤ 1000) : n ≤ sizeLine := Nat.le_trans h (by decide)
theorem sz2 {n : Nat} (h : n ≤ 1000) : n < sizeLine := Nat.lt_of_le_of_lt h (by decide)

/-! ### argument lists, calls of defs -/
/-- the def x of the text keeps the promise sp -/
structure OkC (P : Program) (w : World) (K : PySem.W.Frag) (mg : Str → Option Value) (base : Heap) (CX : CXT) (x : Str) (k : Nat) (ps : List Str) (sp : Sp) : Prop where
  ex : ∃ (f : Addr) (fd : FuncData), mg x = some (.ref f) ∧ PySem.W.keepIn K (.ref f) = true ∧ Binds K fd ps [] ∧ FnOk P w K mg base CX k f fd ps sp
/-- a def that reckons with data: what it takes and gives -/
def spD (R : List PyData → PyData → Prop) : Sp := fun vs H Q _ => ∃ ds d, TpA H vs ds ∧ R ds d ∧ ∀ v H', Ex H H' → Tp H' v d → Q v H'
section
variable {X : Cx} {e a b c : Expr} {es : List Expr} {σ : L2.St} {H : Hp} {pos p : Pos} {x : Str}
theorem ja_nil : JA X [] σ H [] := PA.cq pa_nil fun σ' H1 Q q => by
  obtain ⟨rfl, e1, q⟩ := q
  exact q [] H1 (Ex.refl _) .nil
theorem ja_cons {d : PyData} {ds : List PyData} (h : JD X e σ H d) (hr : JA X es σ H ds) (hs : starEach (e :: es) X.env = (false, eval e X.env) :: starEach es X.env := by rfl) : JA X (e :: es) σ H (d :: ds) := PA.cq (pa_cons h hr hs) fun σ' H1 Q q => by
  obtain ⟨rfl, e1, q⟩ := q
  exact ⟨rfl, e1, fun v H2 e2 hv => ⟨rfl, e1.trans e2, fun vs H3 e3 hvs => q (v :: vs) H3 (e2.trans e3) (.cons (hv.ex e3) hvs)⟩⟩
theorem jd_call {k : Nat} {ps : List Str} {R : List PyData → PyData → Prop} {ds : List PyData} {d : PyData} (O : OkC X.prog X.w X.K X.mg X.base CX0 x k ps (spD R)) (hr : Room k X.A) (ha : JA X (e :: es) σ H ds) (hR : R ds d)
    (hg : Gl X x := by rfl) (hdb : (x == ("__debug__" : Str)) = false := by decide) (he : starEach (e :: es) X.env = (false, eval e X.env) :: starEach es X.env := by rfl) (hpl : (backTo pos (starEach es X.env)).any (·.1) = false := by rfl) :
    JD X (.Call (.Name x p) (e :: es) [] pos) σ H d := by
  obtain ⟨f, fd, hm, hk, hb, F⟩ := O.ex
  refine PE.cq (pe_call F hr hg hm hk hb .nil pass0 ha hdb he hpl) fun σ' H1 Q q => ?_
  obtain ⟨rfl, e1, q⟩ := q
  exact ⟨rfl, e1, fun vs H2 e2 hvs => ⟨ds, d, by rw [List.append_nil]; exact hvs, hR, fun v H3 e3 hv => q v H3 (e2.trans e3) hv⟩⟩

/-! ### calls of built-ins -/
/-- what a call rule gives of data -/
def OpC (r : List V → Hp → VK → Prop) (ds : List PyData) (d : PyData) : Prop := ∀ vs H1 Q, TpA H1 vs ds → (∀ v H2, Ex H1 H2 → Tp H2 v d → Q v H2) → r vs H1 Q
theorem jd_callB {id : String} {r : List V → Hp → VK → Prop} {ds : List PyData} {d : PyData} (hc : CallR X (.builtin id) r) (k : OpC r ds d) (hm : X.mg x = none) (hv : bootBuiltins x = some (.builtin id)) (ha : JA X (e :: es) σ H ds) (hg : Gl X x := by rfl)
    (hn : x ≠ "__name__" := by decide) (hdb : (x == ("__debug__" : Str)) = false := by decide) (he : starEach (e :: es) X.env = (false, eval e X.env) :: starEach es X.env := by rfl) (hpl : (backTo pos (starEach es X.env)).any (·.1) = false := by rfl) :
    JD X (.Call (.Name x p) (e :: es) [] pos) σ H d := PE.cq (pe_callB hc hg hm hv ha hn hdb he hpl) fun σ' H1 Q q => by
  obtain ⟨rfl, e1, q⟩ := q
  exact ⟨rfl, e1, fun vs H2 e2 hvs => k vs H2 Q hvs fun v H3 e3 hv => q v H3 (e2.trans e3) hv⟩
theorem jd_callT {T : String} {r : List V → Hp → VK → Prop} {ds : List PyData} {d : PyData} (hc : CallR X (.type T) r) (k : OpC r ds d) (hm : X.mg x = none) (hv : bootBuiltins x = some (.type T)) (ha : JA X (e :: es) σ H ds) (hg : Gl X x := by rfl)
    (hn : x ≠ "__name__" := by decide) (hdb : (x == ("__debug__" : Str)) = false := by decide) (he : starEach (e :: es) X.env = (false, eval e X.env) :: starEach es X.env := by rfl) (hpl : (backTo pos (starEach es X.env)).any (·.1) = false := by rfl) :
    JD X (.Call (.Name x p) (e :: es) [] pos) σ H d := PE.cq (pe_callTy hc hg hm hv ha hn hdb he hpl) fun σ' H1 Q q => by
  obtain ⟨rfl, e1, q⟩ := q
  exact ⟨rfl, e1, fun vs H2 e2 hvs => k vs H2 Q hvs fun v H3 e3 hv => q v H3 (e2.trans e3) hv⟩
theorem tpA1 {H : Hp} {vs : List V} {d : PyData} (h : TpA H vs [d]) : ∃ v, vs = [v] ∧ Tp H v d := by
  cases h with
  | cons a t => cases t; exact ⟨_, rfl, a⟩
theorem tpA2 {H : Hp} {vs : List V} {d d' : PyData} (h : TpA H vs [d, d']) : ∃ v v', vs = [v, v'] ∧ Tp H v d ∧ Tp H v' d' := by
  cases h with
  | cons a t =>
    obtain ⟨v, rfl, h⟩ := tpA1 t
    exact ⟨_, _, rfl, a, h⟩
theorem tpA3 {H : Hp} {vs : List V} {d d' d3 : PyData} (h : TpA H vs [d, d', d3]) : ∃ v v' v3, vs = [v, v', v3] ∧ Tp H v d ∧ Tp H v' d' ∧ Tp H v3 d3 := by
  cases h with
  | cons a t =>
    obtain ⟨v, v', rfl, h, h'⟩ := tpA2 t
    exact ⟨_, _, _, rfl, a, h, h'⟩
theorem tpA4 {H : Hp} {vs : List V} {d d' d3 d4 : PyData} (h : TpA H vs [d, d', d3, d4]) : ∃ v v' v3 v4, vs = [v, v', v3, v4] ∧ Tp H v d ∧ Tp H v' d' ∧ Tp H v3 d3 ∧ Tp H v4 d4 := by
  cases h with
  | cons a t =>
    obtain ⟨v, v', v3, rfl, h, h', h3⟩ := tpA3 t
    exact ⟨_, _, _, _, rfl, a, h, h', h3⟩
theorem bt_len : bootBuiltins "len" = some (.builtin "len") := by decide +kernel
theorem bt_tuple : bootBuiltins "tuple" = some (.type "tuple") := by decide +kernel
theorem bt_list : bootBuiltins "list" = some (.type "list") := by decide +kernel
theorem bt_set : bootBuiltins "set" = some (.type "set") := by decide +kernel
theorem bt_int : bootBuiltins "int" = some (.type "int") := by decide +kernel
theorem bt_bool : bootBuiltins "bool" = some (.type "bool") := by decide +kernel
theorem bt_str : bootBuiltins "str" = some (.type "str") := by decide +kernel
theorem bt_sum : bootBuiltins "sum" = some (.builtin "sum") := by decide +kernel
theorem bt_min : bootBuiltins "min" = some (.builtin "min") := by decide +kernel
theorem bt_max : bootBuiltins "max" = some (.builtin "max") := by decide +kernel
theorem bt_all : bootBuiltins "all" = some (.builtin "all") := by decide +kernel
theorem bt_any : bootBuiltins "any" = some (.builtin "any") := by decide +kernel
theorem bt_sorted : bootBuiltins "sorted" = some (.builtin "sorted") := by decide +kernel
theorem bt_isi : bootBuiltins "isinstance" = some (.builtin "isinstance") := by decide +kernel
theorem bt_enum : bootBuiltins "enumerate" = some (.type "enumerate") := by decide +kernel
theorem bt_range : bootBuiltins "range" = some (.type "range") := by decide +kernel
theorem jd_lenT {ds : List PyData} (hm : X.mg "len" = none) (ha : JD X a σ H (.tuple ds)) (hg : Gl X "len" := by rfl) (he : starEach [a] X.env = (false, eval a X.env) :: starEach [] X.env := by rfl) : JD X (.Call (.Name "len" p) [a] [] pos) σ H (.int ds.length) := by
  refine jd_callB call_len_seq (ds := [.tuple ds]) (fun vs H1 Q hvs q => ?_) hm bt_len (ja_cons ha ja_nil he) hg (he := he) (hpl := by rfl)
  obtain ⟨v, rfl, hv⟩ := tpA1 hvs
  obtain ⟨t, xs, rfl, h1, h2⟩ := tp_tup hv
  exact ⟨t, xs, rfl, .inr (SqT.of h1), by rw [h2.len]; exact q _ _ (Ex.refl _) (.int _)⟩
theorem jd_lenL {ds : List PyData} (hm : X.mg "len" = none) (ha : JD X a σ H (.list ds)) (hg : Gl X "len" := by rfl) (he : starEach [a] X.env = (false, eval a X.env) :: starEach [] X.env := by rfl) : JD X (.Call (.Name "len" p) [a] [] pos) σ H (.int ds.length) := by
  refine jd_callB call_len_seq (ds := [.list ds]) (fun vs H1 Q hvs q => ?_) hm bt_len (ja_cons ha ja_nil he) hg (he := he) (hpl := by rfl)
  obtain ⟨v, rfl, hv⟩ := tpA1 hvs
  obtain ⟨t, xs, rfl, h1, h2⟩ := tp_lst hv
  exact ⟨t, xs, rfl, .inl (SqL.of h1), by rw [h2.len]; exact q _ _ (Ex.refl _) (.int _)⟩
theorem jd_tupleL {ds : List PyData} (hm : X.mg "tuple" = none) (ha : JD X a σ H (.list ds)) (hg : Gl X "tuple" := by rfl) (he : starEach [a] X.env = (false, eval a X.env) :: starEach [] X.env := by rfl) : JD X (.Call (.Name "tuple" p) [a] [] pos) σ H (.tuple ds) := by
  refine jd_callT call_tuple_of (ds := [.list ds]) (fun vs H1 Q hvs q => ?_) hm bt_tuple (ja_cons ha ja_nil he) hg (he := he) (hpl := by rfl)
  obtain ⟨v, rfl, hv⟩ := tpA1 hvs
  obtain ⟨t, xs, rfl, h1, h2⟩ := tp_lst hv
  exact ⟨t, xs, rfl, .inl ⟨SqL.of h1, fun l hl => q _ _ (Ex.nw hl) (.tup upd_same (h2.ex (Ex.nw hl)))⟩⟩
theorem jd_listT {ds : List PyData} (hm : X.mg "list" = none) (ha : JD X a σ H (.tuple ds)) (hg : Gl X "list" := by rfl) (he : starEach [a] X.env = (false, eval a X.env) :: starEach [] X.env := by rfl) : JD X (.Call (.Name "list" p) [a] [] pos) σ H (.list ds) := by
  refine jd_callT call_list_of (ds := [.tuple ds]) (fun vs H1 Q hvs q => ?_) hm bt_list (ja_cons ha ja_nil he) hg (he := he) (hpl := by rfl)
  obtain ⟨v, rfl, hv⟩ := tpA1 hvs
  obtain ⟨t, xs, rfl, h1, h2⟩ := tp_tup hv
  exact ⟨t, xs, rfl, .inr (SqT.of h1), fun l hl => q _ _ (Ex.nw hl) (.lst upd_same (h2.ex (Ex.nw hl)))⟩
theorem jd_sum {l : List Int} (hc : X.calm = true) (hm : X.mg "sum" = none) (ha : JD X a σ H (dL l)) (hg : Gl X "sum" := by rfl) (he : starEach [a] X.env = (false, eval a X.env) :: starEach [] X.env := by rfl) : JD X (.Call (.Name "sum" p) [a] [] pos) σ H (.int l.sum) := by
  refine jd_callB (cr_sum hc) (ds := [dL l]) (fun vs H1 Q hvs q => ?_) hm bt_sum (ja_cons ha ja_nil he) hg (he := he) (hpl := by rfl)
  obtain ⟨v, rfl, hv⟩ := tpA1 hvs
  obtain ⟨t, xs, rfl, h1, h2⟩ := tp_lst hv
  rw [h2.ints] at h1
  exact ⟨t, l, rfl, SqL.of h1, q _ _ (Ex.refl _) (.int _)⟩
theorem jd_all {l : List Bool} (hc : X.calm = true) (hm : X.mg "all" = none) (ha : JD X a σ H (dB l)) (hg : Gl X "all" := by rfl) (he : starEach [a] X.env = (false, eval a X.env) :: starEach [] X.env := by rfl) : JD X (.Call (.Name "all" p) [a] [] pos) σ H (.bool (l.all id)) := by
  refine jd_callB (cr_all hc) (ds := [dB l]) (fun vs H1 Q hvs q => ?_) hm bt_all (ja_cons ha ja_nil he) hg (he := he) (hpl := by rfl)
  obtain ⟨v, rfl, hv⟩ := tpA1 hvs
  obtain ⟨t, xs, rfl, h1, h2⟩ := tp_lst hv
  rw [h2.bools] at h1
  exact ⟨t, l, rfl, SqL.of h1, q _ _ (Ex.refl _) (.bl _)⟩
theorem jd_any {l : List Bool} (hc : X.calm = true) (hm : X.mg "any" = none) (ha : JD X a σ H (dB l)) (hg : Gl X "any" := by rfl) (he : starEach [a] X.env = (false, eval a X.env) :: starEach [] X.env := by rfl) : JD X (.Call (.Name "any" p) [a] [] pos) σ H (.bool (l.any id)) := by
  refine jd_callB (cr_any hc) (ds := [dB l]) (fun vs H1 Q hvs q => ?_) hm bt_any (ja_cons ha ja_nil he) hg (he := he) (hpl := by rfl)
  obtain ⟨v, rfl, hv⟩ := tpA1 hvs
  obtain ⟨t, xs, rfl, h1, h2⟩ := tp_lst hv
  rw [h2.bools] at h1
  exact ⟨t, l, rfl, SqL.of h1, q _ _ (Ex.refl _) (.bl _)⟩
/-- isinstance -/
def tyN : PyData → String
  | .none => "NoneType"
  | .bool _ => "bool"
  | .int _ => "int"
  | .str _ => "str"
  | .list _ => "list"
  | .tuple _ => "tuple"
  | .dict _ => "dict"
theorem tyx_of {K : PySem.W.Frag} {H : Hp} : ∀ {d : PyData} {v : V}, Tp H v d → TyX K H v (.type (tyN d))
  | _, _, .non => .base .non
  | _, _, .bl b => .base (.bl b)
  | _, _, .int i => .base (.int i)
  | _, _, .lst h _ => .base (.lst h)
  | _, _, .tup h _ => .base (.tup h)
theorem jd_isi {d : PyData} {T : Str} {T' : String} {r : Bool} {p2 : Pos} (hm : X.mg "isinstance" = none) (hmT : X.mg T = none) (hT : bootBuiltins T = some (.type T')) (hr : kitB (tyN d) T' = some r) (ha : JD X a σ H d) (hg : Gl X "isinstance" := by rfl) (hgT : Gl X T := by rfl)
    (hn : T ≠ "__name__" := by decide) (hdb : (T == ("__debug__" : Str)) = false := by decide)
    (he : starEach [a, .Name T p2] X.env = (false, eval a X.env) :: starEach [.Name T p2] X.env := by rfl) (he2 : starEach [.Name T p2] X.env = (false, eval (.Name T p2) X.env) :: starEach [] X.env := by rfl) (hpl : (backTo pos (starEach [.Name T p2] X.env)).any (·.1) = false := by rfl) :
    JD X (.Call (.Name "isinstance" p) [a, .Name T p2] [] pos) σ H (.bool r) := by
  refine PE.cq (pe_callB call_isi hg hm bt_isi (pa_cons ha (pa_cons (pe_bltn (v := .ty T') hgT hmT hT rfl hn hdb) pa_nil he2) he) (he := he) (hpl := hpl)) fun σ' H1 Q q => ?_
  obtain ⟨rfl, e1, q⟩ := q
  exact ⟨rfl, e1, fun v H2 e2 hv => ⟨v, .ty T', .type (tyN d), .type T', r, rfl, .ty T', tyx_of hv, kit_ty hr, q _ _ e2 (.bl r)⟩⟩
/-- isinstance(e, (T1, T2)) -/
theorem jd_isi2 {d : PyData} {T1 T2 : Str} {t1 t2 : String} {r1 r2 : Bool} {p2 p3 pt : Pos} {kk} (hm : X.mg "isinstance" = none) (hm1 : X.mg T1 = none) (hT1 : bootBuiltins T1 = some (.type t1)) (hm2 : X.mg T2 = none) (hT2 : bootBuiltins T2 = some (.type t2))
    (hr1 : kitB (tyN d) t1 = some r1) (hr2 : kitB (tyN d) t2 = some r2) (ha : JD X a σ H d) (hg : Gl X "isinstance" := by rfl) (hg1 : Gl X T1 := by rfl) (hg2 : Gl X T2 := by rfl)
    (hn1 : T1 ≠ "__name__" := by decide) (hdb1 : (T1 == ("__debug__" : Str)) = false := by decide) (hn2 : T2 ≠ "__name__" := by decide) (hdb2 : (T2 == ("__debug__" : Str)) = false := by decide)
    (he : starEach [a, .Tuple [.Name T1 p2, .Name T2 p3] kk pt] X.env = (false, eval a X.env) :: starEach [.Tuple [.Name T1 p2, .Name T2 p3] kk pt] X.env := by rfl)
    (he2 : starEach [.Tuple [.Name T1 p2, .Name T2 p3] kk pt] X.env = (false, eval (.Tuple [.Name T1 p2, .Name T2 p3] kk pt) X.env) :: starEach [] X.env := by rfl) (hpl : (backTo pos (starEach [.Tuple [.Name T1 p2, .Name T2 p3] kk pt] X.env)).any (·.1) = false := by rfl)
    (he3 : starEach [.Name T1 p2, .Name T2 p3] X.env = (false, eval (.Name T1 p2) X.env) :: starEach [.Name T2 p3] X.env := by rfl) (he4 : starEach [.Name T2 p3] X.env = (false, eval (.Name T2 p3) X.env) :: starEach [] X.env := by rfl) :
    JD X (.Call (.Name "isinstance" p) [a, .Tuple [.Name T1 p2, .Name T2 p3] kk pt] [] pos) σ H (.bool (r1 || r2)) := by
  refine PE.cq (pe_callB call_isiT hg hm bt_isi (pa_cons ha (pa_cons (pe_tup (pa_cons (pe_bltn (v := .ty t1) hg1 hm1 hT1 rfl hn1 hdb1) (pa_cons (pe_bltn (v := .ty t2) hg2 hm2 hT2 rfl hn2 hdb2) pa_nil he4) he3)) pa_nil he2) he) (he := he) (hpl := hpl)) fun σ' H1 Q q => ?_
  obtain ⟨rfl, e1, q⟩ := q
  refine ⟨rfl, e1, fun v H2 e2 hv => ⟨by show 2 ≤ sizeLine; decide, fun t ht => ⟨v, t, [.ty t1, .ty t2], .type (tyN d), [.type t1, .type t2], (r1 || r2), rfl, upd_same, .cons (.ty t1) (.cons (.ty t2) .nil), tyx_of (hv.ex (Ex.nw ht)), ?_, q _ _ (e2.trans (Ex.nw ht)) (.bl _)⟩⟩⟩
  cases r1 with
  | true => exact kitAny_cons (kit_ty hr1) (fun z => nomatch z) (fun _ => rfl)
  | false =>
    refine kitAny_cons (kit_ty hr1) (fun _ => ?_) (fun z => nomatch z)
    cases r2 with
    | true => exact kitAny_cons (kit_ty hr2) (fun z => nomatch z) (fun _ => rfl)
    | false => exact kitAny_cons (kit_ty hr2) (fun _ => kitAny_nil) (fun z => nomatch z)
/-! ### displays, subscripts -/
theorem jd_tup {ds : List PyData} {kk} (ha : JA X es σ H ds) (hl : ds.length ≤ 1000 := by first | decide | exact Nat.le_of_ble_eq_true rfl) : JD X (.Tuple es kk pos) σ H (.tuple ds) := PE.cq (pe_tup ha) fun σ' H1 Q q => by
  obtain ⟨rfl, e1, q⟩ := q
  exact ⟨rfl, e1, fun vs H2 e2 hvs => ⟨by rw [hvs.len]; exact sz1 hl, fun t ht => q _ _ (e2.trans (Ex.nw ht)) (.tup upd_same (hvs.ex (Ex.nw ht)))⟩⟩
theorem jd_lst {ds : List PyData} (ha : JA X es σ H ds) (hl : ds.length ≤ 1000 := by first | decide | exact Nat.le_of_ble_eq_true rfl) : JD X (.List es pos) σ H (.list ds) := PE.cq (pe_lst ha) fun σ' H1 Q q => by
  obtain ⟨rfl, e1, q⟩ := q
  exact ⟨rfl, e1, fun vs H2 e2 hvs => ⟨by rw [hvs.len]; exact sz1 hl, fun t ht => q _ _ (e2.trans (Ex.nw ht)) (.lst upd_same (hvs.ex (Ex.nw ht)))⟩⟩
theorem jd_ix {r : R2} {da db d : PyData} (hr : IxR X r) (k : Op2 r da db d) (ha : JD X a σ H da) (hb : JD X b σ H db) (hs : PlainIx b := by exact fun _ _ => rfl) : JD X (.Subscript a b pos) σ H d := PE.cq (pe_ix hr ha hb hs) fun σ' H1 Q q => by
  obtain ⟨rfl, e1, q⟩ := q
  exact ⟨rfl, e1, fun x H2 e2 hx => ⟨rfl, e1.trans e2, fun y H3 e3 hy => k x y H3 Q (hx.ex e3) hy fun v H4 e4 hv => q v H4 ((e2.trans e3).trans e4) hv⟩⟩
theorem jd_ixT {ds : List PyData} {n : Nat} {d : PyData} (ha : JD X a σ H (.tuple ds)) (hb : JD X b σ H (.int n)) (hd : ds[n]? = some d) (hs : PlainIx b := by exact fun _ _ => rfl) : JD X (.Subscript a b pos) σ H d :=
  jd_ix (da := .tuple ds) (db := .int n) ix_tup (fun x y H1 Q hx hy q => by
    obtain ⟨t, xs, rfl, h1, h2⟩ := tp_tup hx
    obtain ⟨v, h3, h4⟩ := h2.at hd
    rw [tp_int hy]
    exact ⟨t, xs, _, v, rfl, rfl, SqT.of h1, atI_nat h3, q _ _ (Ex.refl _) h4⟩) ha hb hs
theorem jd_ixL {ds : List PyData} {n : Nat} {d : PyData} (ha : JD X a σ H (.list ds)) (hb : JD X b σ H (.int n)) (hd : ds[n]? = some d) (hs : PlainIx b := by exact fun _ _ => rfl) : JD X (.Subscript a b pos) σ H d :=
  jd_ix (da := .list ds) (db := .int n) ix_list (fun x y H1 Q hx hy q => by
    obtain ⟨t, xs, rfl, h1, h2⟩ := tp_lst hx
    obtain ⟨v, h3, h4⟩ := h2.at hd
    rw [tp_int hy]
    exact ⟨t, xs, _, v, rfl, rfl, SqL.of h1, atI_nat h3, q _ _ (Ex.refl _) h4⟩) ha hb hs
/-- t + u -/
theorem jd_catT {ds es' : List PyData} (ha : JD X a σ H (.tuple ds)) (hb : JD X b σ H (.tuple es')) (hl : ds.length + es'.length ≤ 1000) : JD X (.BinOp a .Add b pos) σ H (.tuple (ds ++ es')) := by
  refine jd_op (da := .tuple ds) (db := .tuple es') op_catA (fun x y H1 Q hx hy q => ?_) ha hb
  obtain ⟨t, xs, rfl, h1, h2⟩ := tp_tup hx
  obtain ⟨u, ys, rfl, h3, h4⟩ := tp_tup hy
  refine ⟨t, u, xs, ys, rfl, rfl, SqT.of h1, SqT.of h3, by rw [h2.len, h4.len]; exact sz1 hl, fun z => ?_, fun z1 z => ?_, fun _ _ l hl => q _ _ (Ex.nw hl) (.tup upd_same ((h2.app h4).ex (Ex.nw hl)))⟩
  · subst z
    cases h2
    exact q _ _ (Ex.refl _) (.tup h3 h4)
  · subst z
    cases h4
    exact q _ _ (Ex.refl _) (by rw [List.append_nil]; exact .tup h1 h2)
end
end TJ
set_option Elab.async false
set_option linter.all false
set_option maxRecDepth 100000
set_option maxHeartbeats 4000000
namespace TJ
open PySem PySem.Spec PyProof.Rows L2
open Evl (Ex fresh_back)

/-! ### comprehensions -/
theorem wipe1 (σ : L2.St) (i : Nat) (x : V) : wipe ((wipe σ [i]).set i (some x)) [i] = wipe σ [i] := by
  show ((σ.set i none).set i (some x)).set i none = σ.set i none
  rw [List.set_set, List.set_set]
theorem fltA_filter {α : Type} {g : α → PyData} (h : ∀ a, flt (g a) = true) (l : List α) : fltA (l.map g) = true := fltA_map g h l
theorem TpA.upd {H : Hp} {D : Addr} {o : HO} {ds : List PyData} {vs : List V} (h : TpA H vs ds) (f : fltA ds = true) (hD : ∀ xs, H D ≠ some (.tup xs)) : TpA (upd H D o) vs ds := h.tx (Tx.upd hD) f
theorem Tp.upd {H : Hp} {D : Addr} {o : HO} {d : PyData} {v : V} (h : Tp H v d) (f : flt d = true) (hD : ∀ xs, H D ≠ some (.tup xs)) : Tp (upd H D o) v d := h.tx (Tx.upd hD) f
theorem filter_take {α : Type} {f : α → Bool} : ∀ {l : List α} {i : Nat} {a : α}, l[i]? = some a → (l.take (i + 1)).filter f = (l.take i).filter f ++ (if f a = true then [a] else []) := fun {l i a} h => by
  have e : l.take (i + 1) = l.take i ++ [a] := by rw [List.take_add_one, h]; rfl
  rw [e, List.filter_append]
  cases hf : f a with
  | true => rw [List.filter_cons, if_pos hf]; rfl
  | false => rw [List.filter_cons, hf]; rfl
/-- what a comprehension has at D behind i turns -/
def LcP {α : Type} (H1 : Hp) (D : Addr) (l : List α) (f : α → Bool) (g : α → PyData) (i : Nat) (H' : Hp) : Prop := H1 D = none ∧ Ex H1 H' ∧ ∃ acc, H' D = some (.lst acc) ∧ TpA H' acc (((l.take i).filter f).map g)
theorem LcP.start {α : Type} {H1 : Hp} {D : Addr} {l : List α} {f : α → Bool} {g : α → PyData} (h : H1 D = none) : LcP H1 D l f g 0 (upd H1 D (.lst [])) := ⟨h, Ex.nw h, [], upd_same, by
  show TpA _ [] (((l.take 0).filter f).map g)
  exact .nil⟩
section
variable {X : Cx} {e a b c : Expr} {es : List Expr} {σ : L2.St} {H : Hp} {pos p : Pos} {x : Str}
/-- one turn -/
theorem lc_turn {α : Type} {H1 : Hp} {D : Addr} {l : List α} {f : α → Bool} {g : α → PyData} {i : Nat} {H' : Hp} {σ2 : L2.St} {tt : TT} {te : TE} {a : α} (hl : l.length ≤ 1000) (hg : ∀ a, flt (g a) = true) (ha : l[i]? = some a) (p : LcP H1 D l f g i H')
    (ht : ∀ Q, (∀ H2, Ex H' H2 → Q (f a) H2) → tt σ2 H' Q) (he : f a = true → ∀ H2 Q, Ex H' H2 → (∀ v H3, Ex H2 H3 → Tp H3 v (g a) → Q v H3) → te σ2 H2 Q) :
    tt σ2 H' fun b H3 => if b = true then te σ2 H3 fun y H4 => ∃ acc, H4 D = some (.lst acc) ∧ acc.length < sizeLine ∧ LcP H1 D l f g (i + 1) (upd H4 D (.lst (acc ++ [y]))) else LcP H1 D l f g (i + 1) H3 := by
  obtain ⟨p1, p2, acc, p3, p4⟩ := p
  have hlen : acc.length ≤ 1000 := by
    rw [p4.len, List.length_map]
    have h1 := List.length_filter_le f (l.take i)
    have h2 := List.length_take_le i l
    have h3 : (l.take i).length ≤ l.length := by rw [List.length_take]; exact Nat.min_le_right _ _
    omega
  refine ht _ fun H2 e2 => ?_
  have ft := filter_take (f := f) ha
  cases hf : f a with
  | true =>
    refine iteT (he hf H2 _ e2 fun v H3 e3 hv => ⟨acc, e3 D _ (e2 D _ p3), sz2 hlen, p1, Evl.Ex.mut ((p2.trans e2).trans e3) p1, acc ++ [v], upd_same, ?_⟩)
    rw [ft, hf, if_pos rfl, List.map_append]
    have hD : ∀ xs, H3 D ≠ some (.tup xs) := fun xs z => by rw [e3 D _ (e2 D _ p3)] at z; cases z
    exact TpA.app (((p4.ex e2).ex e3).upd (fltA_map g hg _) hD) (.cons (hv.upd (hg a) hD) .nil)
  | false =>
    refine iteF ⟨p1, p2.trans e2, acc, e2 D _ p3, ?_⟩
    rw [ft, hf, if_neg Bool.false_ne_true, List.append_nil]
    exact p4.ex e2
theorem LcP.fin {α : Type} {H0 H1 : Hp} {D : Addr} {l : List α} {f : α → Bool} {g : α → PyData} {H' : Hp} (p : LcP H1 D l f g l.length H') : Ex H1 H' ∧ Tp H' (.ref D) (.list ((l.filter f).map g)) := by
  obtain ⟨p1, p2, acc, p3, p4⟩ := p
  rw [List.take_length] at p4
  exact ⟨p2, .lst p3 p4⟩
end
/-- the test and the element of one turn -/
structure LcOk {α : Type} (X : Cx) (elt : Expr) (ifs : List Expr) (scope : Scope) (i : Nat) (σ : L2.St) (H : Hp) (l : List α) (enc : α → PyData) (f : α → Bool) (g : α → PyData) : Prop where
  ft : ∀ a, flt (g a) = true
  len : l.length ≤ 1000
  test : ∀ (s0 : Shared) (H0 : Hp) (C : Addr) (cl : List (Str × Addr)) (fp : List Addr) (a : α), a ∈ l → ∀ (v : V) (H' : Hp), Ex H H' → Tp H' v (enc a) → PTs (X.blk s0 H0 scope (compEnvC scope cl C X.env) fp) ifs (tT ((wipe σ [i]).set i (some v)) H' (f a))
  elt : ∀ (s0 : Shared) (H0 : Hp) (C : Addr) (cl : List (Str × Addr)) (fp : List Addr) (a : α), a ∈ l → f a = true → ∀ (v : V) (H' : Hp), Ex H H' → Tp H' v (enc a) → JD (X.blk s0 H0 scope (compEnvC scope cl C X.env) fp) elt ((wipe σ [i]).set i (some v)) H' (g a)
section
variable {X : Cx} {e a b c : Expr} {es : List Expr} {σ : L2.St} {H : Hp} {pos p : Pos} {x : Str}
/-- the family's index: item, its value, the heap -/
structure Ix {α : Type} (H : Hp) (l : List α) (enc : α → PyData) where
  a : α
  v : V
  H' : Hp
  mem : a ∈ l
  ex : Ex H H'
  tp : Tp H' v (enc a)
structure IxT {α : Type} (H : Hp) (l : List α) (enc : α → PyData) (f : α → Bool) extends Ix H l enc where
  ok : f a = true
def ttF {α : Type} (i : Nat) (σ : L2.St) (H : Hp) (l : List α) (enc : α → PyData) (f : α → Bool) : TT := fun σ2 H2 Q => ∃ z : Ix H l enc, tT ((wipe σ [i]).set i (some z.v)) z.H' (f z.a) σ2 H2 Q
def teF {α : Type} (i : Nat) (σ : L2.St) (H : Hp) (l : List α) (enc : α → PyData) (f : α → Bool) (g : α → PyData) : TE := fun σ2 H2 Q => ∃ z : IxT H l enc f, tD ((wipe σ [i]).set i (some z.v)) z.H' (g z.a) σ2 H2 Q
/-- the reading, over a tuple -/
theorem lc_readT {α : Type} {K : PySem.W.Frag} {l : List α} {enc : α → PyData} {f : α → Bool} {g : α → PyData} {i : Nat} (hl : l.length ≤ 1000) (hg : ∀ a, flt (g a) = true) {σ' : L2.St} {H1 : Hp} {Q : VK} (q : tD σ H (.list ((l.filter f).map g)) σ' H1 Q) :
    tLc (iTup K (tD σ H (.tuple (l.map enc)))) (gName i) (ttF i σ H l enc f) (teF i σ H l enc f g) [i] σ' H1 Q := by
  obtain ⟨rfl, e1, q⟩ := q
  refine ⟨rfl, e1, fun v H2 e2 hv => ?_⟩
  obtain ⟨t, xs, rfl, h1, h2⟩ := tp_tup hv
  refine ⟨t, rfl, ⟨xs, SqT.of h1⟩, fun D hD => lc_tup (xs := xs) (LcP H2 D l f g) (LcP.start hD) (fun j H' _ p => SqT.of (p.2.1 t _ h1)) (fun j y H' hy p => ⟨wipe1 _ _ _, ?_⟩) (fun H' p => ?_)⟩
  · obtain ⟨d, hd, hyd⟩ := h2.at' hy
    rw [List.getElem?_map] at hd
    cases ha : l[j]? with
    | none => rw [ha] at hd; cases hd
    | some a =>
      rw [ha] at hd
      have ed : enc a = d := Option.some.inj hd
      subst ed
      have mem : a ∈ l := List.mem_of_getElem? ha
      have ex1 : Ex H H' := (e1.trans e2).trans p.2.1
      have tp1 : Tp H' y (enc a) := hyd.ex p.2.1
      refine lc_turn hl hg ha p (fun Q hQ => ⟨⟨a, y, H', mem, ex1, tp1⟩, rfl, Ex.refl _, hQ⟩) (fun hf H3 Q e3 hQ => ⟨⟨⟨a, y, H', mem, ex1, tp1⟩, hf⟩, rfl, e3, hQ⟩)
  · have n : xs.length = l.length := by rw [h2.len, List.length_map]
    rw [n] at p
    obtain ⟨z1, z2⟩ := LcP.fin (H0 := H) p
    exact q _ _ (e2.trans z1) z2
theorem lc_readL {α : Type} {K : PySem.W.Frag} {l : List α} {enc : α → PyData} {f : α → Bool} {g : α → PyData} {i : Nat} (hl : l.length ≤ 1000) (hg : ∀ a, flt (g a) = true) {σ' : L2.St} {H1 : Hp} {Q : VK} (q : tD σ H (.list ((l.filter f).map g)) σ' H1 Q) :
    tLc (iList K (tD σ H (.list (l.map enc)))) (gName i) (ttF i σ H l enc f) (teF i σ H l enc f g) [i] σ' H1 Q := by
  obtain ⟨rfl, e1, q⟩ := q
  refine ⟨rfl, e1, fun v H2 e2 hv => ?_⟩
  obtain ⟨t, xs, rfl, h1, h2⟩ := tp_lst hv
  refine ⟨t, rfl, ⟨xs, SqL.of h1⟩, fun D hD => lc_list (xs := xs) (LcP H2 D l f g) (LcP.start hD) (fun j H' _ p => SqL.of (p.2.1 t _ h1)) (fun j y H' hy p => ⟨wipe1 _ _ _, ?_⟩) (fun H' p => ?_)⟩
  · obtain ⟨d, hd, hyd⟩ := h2.at' hy
    rw [List.getElem?_map] at hd
    cases ha : l[j]? with
    | none => rw [ha] at hd; cases hd
    | some a =>
      rw [ha] at hd
      have ed : enc a = d := Option.some.inj hd
      subst ed
      have mem : a ∈ l := List.mem_of_getElem? ha
      have ex1 : Ex H H' := (e1.trans e2).trans p.2.1
      have tp1 : Tp H' y (enc a) := hyd.ex p.2.1
      refine lc_turn hl hg ha p (fun Q hQ => ⟨⟨a, y, H', mem, ex1, tp1⟩, rfl, Ex.refl _, hQ⟩) (fun hf H3 Q e3 hQ => ⟨⟨⟨a, y, H', mem, ex1, tp1⟩, hf⟩, rfl, e3, hQ⟩)
  · have n : xs.length = l.length := by rw [h2.len, List.length_map]
    rw [n] at p
    obtain ⟨z1, z2⟩ := LcP.fin (H0 := H) p
    exact q _ _ (e2.trans z1) z2
theorem lc_tests {α : Type} {elt : Expr} {ifs : List Expr} {scope : Scope} {i : Nat} {l : List α} {enc : α → PyData} {f : α → Bool} {g : α → PyData} (L : LcOk X elt ifs scope i σ H l enc f g) (s0 : Shared) (H0 : Hp) (C : Addr) (cl : List (Str × Addr)) (fp : List Addr) :
    PTs (X.blk s0 H0 scope (compEnvC scope cl C X.env) fp) ifs (ttF i σ H l enc f) := PTs.fam fun z => L.test s0 H0 C cl fp z.a z.mem z.v z.H' z.ex z.tp
theorem lc_elts {α : Type} {elt : Expr} {ifs : List Expr} {scope : Scope} {i : Nat} {l : List α} {enc : α → PyData} {f : α → Bool} {g : α → PyData} (L : LcOk X elt ifs scope i σ H l enc f g) (s0 : Shared) (H0 : Hp) (C : Addr) (cl : List (Str × Addr)) (fp : List Addr) :
    PE (X.blk s0 H0 scope (compEnvC scope cl C X.env) fp) elt (teF i σ H l enc f g) := PE.fam fun z => L.elt s0 H0 C cl fp z.a z.mem z.ok z.v z.H' z.ex z.tp
/-- [elt for y in t if ..], t a tuple -/
theorem jd_lcT {α : Type} {elt iter : Expr} {ifs : List Expr} {scope : Scope} {y : Str} {py : Pos} {i : Nat} {l : List α} {enc : α → PyData} {f : α → Bool} {g : α → PyData} (nd : X.N.Nodup) (hi : JD X iter σ H (.tuple (l.map enc))) (L : LcOk X elt ifs scope i σ H l enc f g)
    (hc : X.calm = true := by rfl) (ok : blkC X.N X.env.scope scope [(y, i)] = true := by kernel_rfl) (hN : X.N[i]? = some y := by rfl) (hy : ∀ C cl, Loc (compEnvC scope cl C X.env).scope y := by first | (intros; exact Or.inl rfl) | (intros; exact Or.inr rfl)) (hyf : ∀ s0 H0 C cl fp, (X.blk s0 H0 scope (compEnvC scope cl C X.env) fp).fn y = true ∨ (compEnvC scope cl C X.env).scope.names.lookup y = some .local := by first | (intros; exact Or.inr rfl) | (intros; exact Or.inl rfl)) (hs : ∀ x, foldedSetIterable iter X.env x = pure x := by intro _; rfl) :
    JD X (.ListComp elt [⟨.Name y py, iter, ifs, 0⟩] scope pos) σ H (.list ((l.filter f).map g)) :=
  PE.cq (pe_lc (own := [(y, i)]) (g := gName i) hc nd (pi_tup hi) (blkOk_by ok) (fun s0 H0 C cl fp => pg_name nd hN (hy C cl) (hyf s0 H0 C cl fp)) (fun s0 H0 C cl fp => lc_tests L s0 H0 C cl fp) (fun s0 H0 C cl fp => lc_elts L s0 H0 C cl fp) hs) fun σ' H1 Q q => lc_readT L.len L.ft q
theorem jd_lcL {α : Type} {elt iter : Expr} {ifs : List Expr} {scope : Scope} {y : Str} {py : Pos} {i : Nat} {l : List α} {enc : α → PyData} {f : α → Bool} {g : α → PyData} (nd : X.N.Nodup) (hi : JD X iter σ H (.list (l.map enc))) (L : LcOk X elt ifs scope i σ H l enc f g)
    (hc : X.calm = true := by rfl) (ok : blkC X.N X.env.scope scope [(y, i)] = true := by kernel_rfl) (hN : X.N[i]? = some y := by rfl) (hy : ∀ C cl, Loc (compEnvC scope cl C X.env).scope y := by first | (intros; exact Or.inl rfl) | (intros; exact Or.inr rfl)) (hyf : ∀ s0 H0 C cl fp, (X.blk s0 H0 scope (compEnvC scope cl C X.env) fp).fn y = true ∨ (compEnvC scope cl C X.env).scope.names.lookup y = some .local := by first | (intros; exact Or.inr rfl) | (intros; exact Or.inl rfl)) (hs : ∀ x, foldedSetIterable iter X.env x = pure x := by intro _; rfl) :
    JD X (.ListComp elt [⟨.Name y py, iter, ifs, 0⟩] scope pos) σ H (.list ((l.filter f).map g)) :=
  PE.cq (pe_lc (own := [(y, i)]) (g := gName i) hc nd (pi_list hi) (blkOk_by ok) (fun s0 H0 C cl fp => pg_name nd hN (hy C cl) (hyf s0 H0 C cl fp)) (fun s0 H0 C cl fp => lc_tests L s0 H0 C cl fp) (fun s0 H0 C cl fp => lc_elts L s0 H0 C cl fp) hs) fun σ' H1 Q q => lc_readL L.len L.ft q

/-! ### statements -/
def tS (σ : L2.St) (H : Hp) (D : Ends) : TS := fun D' σ' H' => σ' = σ ∧ H' = H ∧ D' = D
abbrev J1 (X : Cx) (st : Stmt) (σ : L2.St) (H : Hp) (D : Ends) : Prop := PS X st (tS σ H D)
abbrev JS (X : Cx) (sts : List Stmt) (σ : L2.St) (H : Hp) (D : Ends) : Prop := PSs X sts (tS σ H D)
theorem PS.cq {st : Stmt} {t t' : TS} (h : PS X st t) (k : ∀ D σ H, t' D σ H → t D σ H) : PS X st t' := ⟨fun pins s σ H D I q => h.run pins s σ H D I (k D σ H q)⟩
theorem PSs.cq {st : List Stmt} {t t' : TS} (h : PSs X st t) (k : ∀ D σ H, t' D σ H → t D σ H) : PSs X st t' := ⟨fun pins s σ H D I q => h.run pins s σ H D I (k D σ H q)⟩
theorem PSs.fam {ι : Sort _} {st : List Stmt} {t : ι → TS} (h : ∀ i, PSs X st (t i)) : PSs X st (fun D σ H => ∃ i, t i D σ H) := ⟨fun pins s σ H D I ⟨i, q⟩ => (h i).run pins s σ H D I q⟩
variable {D : Ends} {st : Stmt} {rest thn els body : List Stmt}
theorem js_cons (h : J1 X st σ H { D with nx := fun σ' H' => JS X rest σ' H' D }) : JS X (st :: rest) σ H D := ⟨fun pins s σ' H' D' I q => by
  obtain ⟨rfl, rfl, rfl⟩ := q
  refine wpAny_execs_cons (L2.thn (h.run pins s _ _ _ I ⟨rfl, rfl, rfl⟩) fun f s1 q => ?_)
  cases f with
  | next =>
    obtain ⟨σ2, H2, I2, q⟩ := q
    exact q.run pins s1 σ2 H2 _ I2 ⟨rfl, rfl, rfl⟩
  | ret v => exact q
  | brk => exact q
  | cont => exact q⟩
theorem js_nil (h : D.nx σ H) : JS X [] σ H D := PSs.cq pss_nil fun D' σ' H' q => by
  obtain ⟨rfl, rfl, rfl⟩ := q
  exact h
theorem js_one (h : J1 X st σ H D) : JS X [st] σ H D := pss_one h
theorem j_set {y : Str} {py : Pos} {i : Nat} {d : PyData} (nd : X.N.Nodup) (h : JD X e σ H d) (k : ∀ v H1, Ex H H1 → Tp H1 v d → D.nx (σ.set i (some v)) H1) (hN : X.N[i]? = some y := by rfl) (hl : Loc X.env.scope y := by first | exact Or.inl rfl | exact Or.inr rfl)
    (hs : swapsWith e (some (.Name y py)) pos.line X.env = pure false := by rfl) (hf : X.fn y = true ∨ X.env.scope.names.lookup y = some .local := by first | exact .inl rfl | exact .inr rfl) : J1 X (.Assign [.Name y py] e pos) σ H D :=
  PS.cq (ps_set nd hN hl h hs hf) fun D' σ' H' q => by
    obtain ⟨rfl, rfl, rfl⟩ := q
    exact ⟨rfl, Ex.refl _, fun v H1 e1 hv => k v H1 e1 hv⟩
theorem j_ret {d : PyData} (h : JD X e σ H d) (k : ∀ v H1, Ex H H1 → Tp H1 v d → D.rt v H1) : J1 X (.Return (some e) pos) σ H D := PS.cq (ps_ret h) fun D' σ' H' q => by
  obtain ⟨rfl, rfl, rfl⟩ := q
  exact ⟨rfl, Ex.refl _, fun v H1 e1 hv => k v H1 e1 hv⟩
theorem j_expr {d : PyData} (h : JD X e σ H d) (k : ∀ v H1, Ex H H1 → Tp H1 v d → D.nx σ H1) (hs : swapsWith e none pos.line X.env = pure false := by rfl) : J1 X (.Expr e pos) σ H D := PS.cq (ps_expr h hs) fun D' σ' H' q => by
  obtain ⟨rfl, rfl, rfl⟩ := q
  exact ⟨rfl, Ex.refl _, fun v H1 e1 hv => k v H1 e1 hv⟩
theorem j_if {b : Bool} (h : JT X c σ H b) (h1 : b = true → ∀ H1, Ex H H1 → JS X thn σ H1 D) (h2 : b = false → ∀ H1, Ex H H1 → JS X els σ H1 D) : J1 X (.If c thn els pos) σ H D := by
  cases b with
  | true =>
    refine PS.cq (ps_if h (PSs.fam (ι := { H1 // Ex H H1 }) fun z => h1 rfl z.1 z.2) pss_never) fun D' σ' H' q => ?_
    obtain ⟨rfl, rfl, rfl⟩ := q
    exact ⟨rfl, Ex.refl _, fun H1 e1 => iteT ⟨⟨H1, e1⟩, rfl, rfl, rfl⟩⟩
  | false =>
    refine PS.cq (ps_if h pss_never (PSs.fam (ι := { H1 // Ex H H1 }) fun z => h2 rfl z.1 z.2)) fun D' σ' H' q => ?_
    obtain ⟨rfl, rfl, rfl⟩ := q
    exact ⟨rfl, Ex.refl _, fun H1 e1 => iteF ⟨⟨H1, e1⟩, rfl, rfl, rfl⟩⟩
/-- if c: .. (a way that is not taken) -/
theorem j_ifno (h : JT X c σ H false) (h2 : ∀ H1, Ex H H1 → D.nx σ H1) : J1 X (.If c thn [] pos) σ H D := j_if h (fun z => nomatch z) fun _ H1 e1 => js_nil (h2 H1 e1)
theorem j_aug {y : Str} {py : Pos} {i : Nat} {m n : Int} (nd : X.N.Nodup) (hx : σ[i]? = some (some (.int m))) (h : JD X e σ H (.int n)) (k : ∀ H1, Ex H H1 → D.nx (σ.set i (some (.int (m + n)))) H1) (hN : X.N[i]? = some y := by rfl) (hl : Loc X.env.scope y := by first | exact Or.inl rfl | exact Or.inr rfl)
    (hf : X.fn y = true ∨ X.env.scope.names.lookup y = some .local := by first | exact .inl rfl | exact .inr rfl) : J1 X (.AugAssign (.Name y py) .Add e pos) σ H D := PS.cq (ps_aug nd hN hl h ip_add hf) fun D' σ' H' q => by
  obtain ⟨rfl, rfl, rfl⟩ := q
  exact ⟨_, hx, rfl, Ex.refl _, fun v H1 e1 hv => ⟨m, n, rfl, tp_int hv, k H1 e1⟩⟩
/-- loops, by data -/
theorem for_dT {K : PySem.W.Frag} {a : Addr} {ds : List PyData} {g : TG} {tb : TS} (Pv : Nat → L2.St → Hp → Prop) (h0 : Pv 0 σ H) (hl : ∀ i σ H, Pv i σ H → Tp H (.ref a) (.tuple ds))
    (hs : ∀ i d x σ H, ds[i]? = some d → Tp H x d → Pv i σ H → g x σ H fun σ2 H2 => tb { D with nx := Pv (i + 1), ct := Pv (i + 1), bk := D.nx } σ2 H2) (hd : ∀ σ H, Pv ds.length σ H → D.nx σ H) :
    ∃ W : Nat → Nat → L2.St → Hp → Prop, (∃ m, W 0 m σ H) ∧ ∀ i m σ H, W i m σ H →
      ((Itt K a).stop i H ∧ D.nx σ H) ∨ ((Itt K a).go i H ∧ ∃ N : L2.St → Hp → Prop, (∀ σ' H', N σ' H' → ∃ m', m' < m ∧ W (i + 1) m' σ' H') ∧ ∀ x H', (Itt K a).yld i H x H' → g x σ H' fun σ2 H2 => tb { D with nx := N, ct := N, bk := D.nx } σ2 H2) := by
  refine ⟨fun i m σ H => m = ds.length - i ∧ i ≤ ds.length ∧ Pv i σ H, ⟨ds.length, by simp, Nat.zero_le _, h0⟩, ?_⟩
  rintro i m σ H ⟨rfl, hi, p⟩
  obtain ⟨t, xs, et, h1, h2⟩ := tp_tup (hl i σ H p)
  cases et
  have n := h2.len
  by_cases hlt : i < ds.length
  · have hx : xs[i]? = some xs[i] := by simp [n, hlt]
    obtain ⟨d, hd1, hd2⟩ := h2.at' hx
    refine .inr ⟨⟨xs, xs[i], SqT.of h1, hx⟩, Pv (i + 1), fun σ' H' p' => ⟨ds.length - (i + 1), by omega, rfl, hlt, p'⟩, fun x H' y => ?_⟩
    obtain ⟨e, y⟩ := y
    subst e
    have ex : xs[i] = x := Option.some.inj (hx.symm.trans (y xs (SqT.of h1)))
    subst ex
    exact hs i d _ σ _ hd1 hd2 p
  · have e : i = ds.length := by omega
    subst e
    exact .inl ⟨⟨xs, SqT.of h1, by omega⟩, hd σ H p⟩
theorem for_dL {K : PySem.W.Frag} {a : Addr} {ds : List PyData} {g : TG} {tb : TS} (Pv : Nat → L2.St → Hp → Prop) (h0 : Pv 0 σ H) (hl : ∀ i σ H, Pv i σ H → Tp H (.ref a) (.list ds))
    (hs : ∀ i d x σ H, ds[i]? = some d → Tp H x d → Pv i σ H → g x σ H fun σ2 H2 => tb { D with nx := Pv (i + 1), ct := Pv (i + 1), bk := D.nx } σ2 H2) (hd : ∀ σ H, Pv ds.length σ H → D.nx σ H) :
    ∃ W : Nat → Nat → L2.St → Hp → Prop, (∃ m, W 0 m σ H) ∧ ∀ i m σ H, W i m σ H →
      ((Itl K a).stop i H ∧ D.nx σ H) ∨ ((Itl K a).go i H ∧ ∃ N : L2.St → Hp → Prop, (∀ σ' H', N σ' H' → ∃ m', m' < m ∧ W (i + 1) m' σ' H') ∧ ∀ x H', (Itl K a).yld i H x H' → g x σ H' fun σ2 H2 => tb { D with nx := N, ct := N, bk := D.nx } σ2 H2) := by
  refine ⟨fun i m σ H => m = ds.length - i ∧ i ≤ ds.length ∧ Pv i σ H, ⟨ds.length, by simp, Nat.zero_le _, h0⟩, ?_⟩
  rintro i m σ H ⟨rfl, hi, p⟩
  obtain ⟨t, xs, et, h1, h2⟩ := tp_lst (hl i σ H p)
  cases et
  have n := h2.len
  by_cases hlt : i < ds.length
  · have hx : xs[i]? = some xs[i] := by simp [n, hlt]
    obtain ⟨d, hd1, hd2⟩ := h2.at' hx
    refine .inr ⟨⟨xs, xs[i], SqL.of h1, hx⟩, Pv (i + 1), fun σ' H' p' => ⟨ds.length - (i + 1), by omega, rfl, hlt, p'⟩, fun x H' y => ?_⟩
    obtain ⟨e, y⟩ := y
    subst e
    have ex : xs[i] = x := Option.some.inj (hx.symm.trans (y xs (SqL.of h1)))
    subst ex
    exact hs i d _ σ _ hd1 hd2 p
  · have e : i = ds.length := by omega
    subst e
    exact .inl ⟨⟨xs, SqL.of h1, by omega⟩, hd σ H p⟩
/-- the index of a loop's turns -/
structure Tn (ds : List PyData) (Pv : Nat → L2.St → Hp → Prop) where
  j : Nat
  d : PyData
  v : V
  σ' : L2.St
  H' : Hp
  at_ : ds[j]? = some d
  tp : Tp H' v d
  p : Pv j σ' H'
def tLoop (i : Nat) (ds : List PyData) (Pv : V → Nat → L2.St → Hp → Prop) (D : Ends) : TS := fun D' σ' H' => ∃ z : (v0 : V) × Tn ds (Pv v0), tS (z.2.σ'.set i (some z.2.v)) z.2.H' { D with nx := Pv z.1 (z.2.j + 1), ct := Pv z.1 (z.2.j + 1), bk := D.nx } D' σ' H'
/-- a for over a tuple: Pv by the turn -/
theorem j_forT {ds : List PyData} {iter : Expr} {y : Str} {py : Pos} {i : Nat} (nd : X.N.Nodup) (h : JD X iter σ H (.tuple ds)) (Pv : V → Nat → L2.St → Hp → Prop)
    (h0 : ∀ v H1, Ex H H1 → Tp H1 v (.tuple ds) → Pv v 0 σ H1) (hl : ∀ v j σ' H', Pv v j σ' H' → Tp H' v (.tuple ds))
    (hs : ∀ v0 j d v σ' H', ds[j]? = some d → Tp H' v d → Pv v0 j σ' H' → JS X body (σ'.set i (some v)) H' { D with nx := Pv v0 (j + 1), ct := Pv v0 (j + 1), bk := D.nx })
    (hd : ∀ v σ' H', Pv v ds.length σ' H' → D.nx σ' H') (hN : X.N[i]? = some y := by rfl) (hloc : Loc X.env.scope y := by first | exact Or.inl rfl | exact Or.inr rfl) (hf : X.fn y = true ∨ X.env.scope.names.lookup y = some .local := by first | exact .inl rfl | exact .inr rfl)
    (hp : PassesOwn (model X.prog X.w) X.A X.env X.xe := by exact PassesOwn.never) (hc : X.calm = true := by rfl) (hfs : ∀ x, foldedSetIterable iter X.env x = pure x := by intro _; rfl) : J1 X (.For (.Name y py) iter body [] pos) σ H D := by
  refine PS.cq (ps_for hp hc (pi_tup h) (pg_name nd hN hloc hf) (show PSs X body (tLoop i ds Pv D) from PSs.fam (ι := (v0 : V) × Tn ds (Pv v0)) fun z => hs z.1 z.2.j z.2.d z.2.v z.2.σ' z.2.H' z.2.at_ z.2.tp z.2.p) hfs) fun D' σ' H' q => ?_
  obtain ⟨rfl, rfl, rfl⟩ := q
  refine ⟨rfl, Ex.refl _, fun v H1 e1 hv' => ?_⟩
  obtain ⟨t, xs, rfl, h1, h2⟩ := tp_tup hv'
  exact ⟨t, rfl, ⟨xs, SqT.of h1⟩, for_dT (ds := ds) (g := gName i) (tb := tLoop i ds Pv D') (Pv (.ref t)) (h0 _ H1 e1 hv') (fun j σ2 H2 p => hl _ j σ2 H2 p) (fun j d x σ2 H2 hx ht p => ⟨⟨_, j, d, x, σ2, H2, hx, ht, p⟩, rfl, rfl, rfl⟩) (fun σ2 H2 p => hd _ σ2 H2 p)⟩
theorem j_forL {ds : List PyData} {iter : Expr} {y : Str} {py : Pos} {i : Nat} (nd : X.N.Nodup) (h : JD X iter σ H (.list ds)) (Pv : V → Nat → L2.St → Hp → Prop)
    (h0 : ∀ v H1, Ex H H1 → Tp H1 v (.list ds) → Pv v 0 σ H1) (hl : ∀ v j σ' H', Pv v j σ' H' → Tp H' v (.list ds))
    (hs : ∀ v0 j d v σ' H', ds[j]? = some d → Tp H' v d → Pv v0 j σ' H' → JS X body (σ'.set i (some v)) H' { D with nx := Pv v0 (j + 1), ct := Pv v0 (j + 1), bk := D.nx })
    (hd : ∀ v σ' H', Pv v ds.length σ' H' → D.nx σ' H') (hN : X.N[i]? = some y := by rfl) (hloc : Loc X.env.scope y := by first | exact Or.inl rfl | exact Or.inr rfl) (hf : X.fn y = true ∨ X.env.scope.names.lookup y = some .local := by first | exact .inl rfl | exact .inr rfl)
    (hp : PassesOwn (model X.prog X.w) X.A X.env X.xe := by exact PassesOwn.never) (hc : X.calm = true := by rfl) (hfs : ∀ x, foldedSetIterable iter X.env x = pure x := by intro _; rfl) : J1 X (.For (.Name y py) iter body [] pos) σ H D := by
  refine PS.cq (ps_for hp hc (pi_list h) (pg_name nd hN hloc hf) (show PSs X body (tLoop i ds Pv D) from PSs.fam (ι := (v0 : V) × Tn ds (Pv v0)) fun z => hs z.1 z.2.j z.2.d z.2.v z.2.σ' z.2.H' z.2.at_ z.2.tp z.2.p) hfs) fun D' σ' H' q => ?_
  obtain ⟨rfl, rfl, rfl⟩ := q
  refine ⟨rfl, Ex.refl _, fun v H1 e1 hv' => ?_⟩
  obtain ⟨t, xs, rfl, h1, h2⟩ := tp_lst hv'
  exact ⟨t, rfl, ⟨xs, SqL.of h1⟩, for_dL (ds := ds) (g := gName i) (tb := tLoop i ds Pv D') (Pv (.ref t)) (h0 _ H1 e1 hv') (fun j σ2 H2 p => hl _ j σ2 H2 p) (fun j d x σ2 H2 hx ht p => ⟨⟨_, j, d, x, σ2, H2, hx, ht, p⟩, rfl, rfl, rfl⟩) (fun σ2 H2 p => hd _ σ2 H2 p)⟩
/-- the index of a range loop's turns -/
structure Tr (n : Nat) (Pv : Nat → L2.St → Hp → Prop) where
  j : Nat
  σ' : L2.St
  H' : Hp
  lt : j < n
  p : Pv j σ' H'
def tLoopR (i n : Nat) (Pv : Nat → L2.St → Hp → Prop) (D : Ends) : TS := fun D' σ' H' => ∃ z : Tr n Pv, tS (z.σ'.set i (some (.int (z.j : Int)))) z.H' { D with nx := Pv (z.j + 1), ct := Pv (z.j + 1), bk := D.nx } D' σ' H'
/-- for y in range(n) -/
theorem j_forR {n : Nat} {y : Str} {py p2 p3 : Pos} {i : Nat} (nd : X.N.Nodup) (hm : X.mg "range" = none) (h : JD X a σ H (.int n)) (hn : n ≤ 1000) (Pv : Nat → L2.St → Hp → Prop)
    (h0 : ∀ H1, Ex H H1 → Pv 0 σ H1)
    (hs : ∀ j σ' H', j < n → Pv j σ' H' → JS X body (σ'.set i (some (.int (j : Int)))) H' { D with nx := Pv (j + 1), ct := Pv (j + 1), bk := D.nx })
    (hd : ∀ σ' H', Pv n σ' H' → D.nx σ' H') (hg : Gl X "range" := by rfl) (hN : X.N[i]? = some y := by rfl) (hloc : Loc X.env.scope y := by first | exact Or.inl rfl | exact Or.inr rfl) (hf : X.fn y = true ∨ X.env.scope.names.lookup y = some .local := by first | exact .inl rfl | exact .inr rfl)
    (hp : PassesOwn (model X.prog X.w) X.A X.env X.xe := by exact PassesOwn.never) (hc : X.calm = true := by rfl) (he : starEach [a] X.env = [(false, eval a X.env)] := by rfl) (hfs : ∀ x, foldedSetIterable (.Call (.Name "range" p2) [a] [] p3) X.env x = pure x := by intro _; rfl) :
    J1 X (.For (.Name y py) (.Call (.Name "range" p2) [a] [] p3) body [] pos) σ H D := by
  refine PS.cq (ps_for hp hc (pi_range1 hg hm (ja_cons h ja_nil he) he) (pg_name nd hN hloc hf) (show PSs X body (tLoopR i n Pv D) from PSs.fam (ι := Tr n Pv) fun z => hs z.j z.σ' z.H' z.lt z.p) hfs) fun D' σ' H' q => ?_
  obtain ⟨rfl, rfl, rfl⟩ := q
  refine ⟨rfl, Ex.refl _, fun vs H1 e1 hv' => ?_⟩
  obtain ⟨v, rfl, hv⟩ := tpA1 hv'
  rw [tp_int hv]
  refine ⟨n, rfl, by omega, by omega, ?_⟩
  rw [show ((n : Int)).toNat = n by simp]
  refine for_range (lo := 0) (n := n) (g := gName i) (tb := tLoopR i n Pv D') Pv (h0 _ e1) (fun j σ2 H2 hj p => ?_) (fun σ2 H2 p => hd σ2 H2 p)
  show tLoopR i n Pv D' _ (σ2.set i (some (.int (0 + (j : Int))))) H2
  rw [Int.zero_add]
  exact ⟨⟨j, σ2, H2, hj, p⟩, rfl, rfl, rfl⟩
end
end TJ
set_option Elab.async false
set_option linter.all false
set_option maxRecDepth 100000
set_option maxHeartbeats 4000000
namespace TJ
open PySem PySem.Spec PyProof.Rows L2
open Evl (Ex fresh_back)
/-! ### the text -/
def topS (i : Nat) : Stmt := PySem.Challenge.pw_tallsits_k10_whole_weights.main.body.getD i (.Pass ⟨0, 0, 0, 0⟩)
/-- a def of the text: where it stands, how its arguments bind -/
structure Df (K : PySem.W.Frag) (mg : Str → Option Value) (x : Str) (st : Stmt) (ps : List Str) : Prop where
  ex : ∃ (f : Addr) (fd : FuncData), mg x = some (.ref f) ∧ Fun K x x st f fd ∧ Binds K fd ps []
/-- the built-ins still are what they were -/
structure Bt (mg : Str → Option Value) : Prop where
  len : mg "len" = none
  tuple : mg "tuple" = none
  list : mg "list" = none
  set : mg "set" = none
  int : mg "int" = none
  bool : mg "bool" = none
  str : mg "str" = none
  sum : mg "sum" = none
  min : mg "min" = none
  max : mg "max" = none
  all : mg "all" = none
  any : mg "any" = none
  sorted : mg "sorted" = none
  isi : mg "isinstance" = none
  enum : mg "enumerate" = none
  range : mg "range" = none
section
variable {P : Program} {w : World} {K : PySem.W.Frag} {mg : Str → Option Value} {base : Heap}
theorem ok_def {x : Str} {st : Stmt} {N ps : List Str} {k : Nat} {R : List PyData → PyData → Prop} (F : Df K mg x st ps) (S : FnScope N ps (defScope st)) (len : ∀ ds d, R ds d → ds.length = ps.length)
    (hbody : ∀ (f : Addr) (cdv : Value) (A : Around) (outer : List Env) (s : Shared) (H : Hp) (E : XK) (vs : List V) (ds : List PyData) (d : PyData) (Q : VK), Room k (cxOf CX0 P w K mg base N x (defScope st) f cdv A outer s H E).nox.A → TpA H vs ds → R ds d → (∀ v H', Ex H H' → Tp H' v d → Q v H') →
      JS (cxOf CX0 P w K mg base N x (defScope st) f cdv A outer s H E).nox (defBody st) (start N vs) H { nx := fun _ H' => Q .non H', rt := Q }) : OkC P w K mg base CX0 x (k + 1) ps (spD R) := by
  obtain ⟨f, fd, hm, hF, hb⟩ := F.ex
  refine ⟨f, fd, hm, hF.kp, hb, hF.ok S (fun vs H Q E h => ?_) (fun cdv A outer s H vs Q E hr h => ?_)⟩
  · obtain ⟨ds, d, h1, h2, _⟩ := h
    rw [h1.len]
    exact len ds d h2
  · obtain ⟨ds, d, h1, h2, q⟩ := h
    exact ⟨_, hbody f cdv A outer s H E vs ds d Q hr h1 h2 q, rfl, rfl, rfl⟩
end
theorem kit_ii {i : Int} : kitB (tyN (.int i)) "int" = some true := (by decide +kernel : kitB "int" "int" = some true)
theorem kit_ib {i : Int} : kitB (tyN (.int i)) "bool" = some false := (by decide +kernel : kitB "int" "bool" = some false)
theorem kit_tt {xs : List PyData} : kitB (tyN (.tuple xs)) "tuple" = some true := (by decide +kernel : kitB "tuple" "tuple" = some true)
/-! ### webs -/
/-- ascending, unlike, below n -/
structure Asc (n : Nat) (l : List Int) : Prop where
  up : l.Pairwise (· < ·)
  lt : ∀ x ∈ l, 0 ≤ x ∧ x < n
/-- a web -/
structure Wb (W : List (List Int)) : Prop where
  n1 : 1 ≤ W.length
  n5 : W.length ≤ 5
  asc : ∀ fs ∈ W, Asc W.length fs
  own : ∀ (i : Nat) fs, W[i]? = some fs → (i : Int) ∉ fs
  sym : ∀ (i j : Nat) fs, W[i]? = some fs → (j : Int) ∈ fs → ∃ gs, W[j]? = some gs ∧ (i : Int) ∈ gs
/-- the friends of a person -/
def fr (W : List (List Int)) (p : Int) : List Int := W.getD p.toNat []
/-- those who stand behind a call -/
def callM (W : List (List Int)) (S : List Int) (p : Int) : List Int := if p ∈ S then S.filter (fun q => decide (p ≤ q) || !decide (q ∈ fr W p)) else S
theorem asc_len {n : Nat} {l : List Int} (h : Asc n l) : l.length ≤ n := by
  have key : ∀ (l : List Int) (a : Int), l.Pairwise (· < ·) → (∀ x ∈ l, a ≤ x ∧ x < n) → (l.length : Int) ≤ max 0 (n - a) := by
    intro l
    induction l with
    | nil => intro a _ _; simp; omega
    | cons y r ih =>
      intro a hp hx
      obtain ⟨h1, h2⟩ := List.pairwise_cons.mp hp
      have hy := hx y List.mem_cons_self
      have q := ih (y + 1) h2 fun x hx' => ⟨by have := h1 x hx'; omega, (hx x (List.mem_cons_of_mem _ hx')).2⟩
      rw [List.length_cons]
      omega
  have q := key l 0 h.up fun x hx => h.lt x hx
  omega
theorem asc_small {n : Nat} {l : List Int} (h : Asc n l) (hn : n ≤ 7) : l.length ≤ 1000 := by
  have := asc_len h
  omega
theorem asc_filter {n : Nat} {l : List Int} (f : Int → Bool) (h : Asc n l) : Asc n (l.filter f) := ⟨h.up.filter f, fun x hx => h.lt x (List.mem_filter.mp hx).1⟩
theorem asc_call {n : Nat} {W : List (List Int)} {S : List Int} {p : Int} (h : Asc n S) : Asc n (callM W S p) := by
  unfold callM
  split
  · exact asc_filter _ h
  · exact h
theorem Wb.fr {W : List (List Int)} (h : Wb W) {p : Int} (h0 : 0 ≤ p) (h1 : p < W.length) : W[p.toNat]? = some (fr W p) := by
  have hp : p.toNat < W.length := by omega
  unfold TJ.fr
  rw [List.getD_eq_getElem?_getD, List.getElem?_eq_getElem hp]
  rfl
theorem Wb.frAsc {W : List (List Int)} (h : Wb W) {p : Int} (h0 : 0 ≤ p) (h1 : p < W.length) : Asc W.length (TJ.fr W p) := h.asc _ (List.mem_of_getElem? (h.fr h0 h1))
theorem get_W {W : List (List Int)} {n : Nat} {fs : List Int} (h : W[n]? = some fs) : (W.map dI)[n]? = some (dI fs) := by
  rw [List.getElem?_map, h]
  rfl
theorem map_filter_int (l : List Int) (f : Int → Bool) : ((l.filter f).map PyData.int) = (l.filter f).map PyData.int := rfl

section
variable {P : Program} {w : World} {K : PySem.W.Frag} {mg : Str → Option Value} {base : Heap}
/-! ### is_integer -/
abbrev sIsInteger : Stmt := topS 1
theorem scIsInteger : FnScope ["value"] ["value"] (defScope sIsInteger) := ⟨rfl, rfl, rfl, by decide +kernel, rfl, by decide +kernel, by decide +kernel⟩
def RIsInteger : List PyData → PyData → Prop := fun ds d => ∃ i : Int, ds = [.int i] ∧ d = .bool true
theorem ok_is_integer (B : Bt mg) (F : Df K mg "is_integer" sIsInteger ["value"]) : OkC P w K mg base CX0 "is_integer" 1 ["value"] (spD RIsInteger) := by
  refine ok_def F scIsInteger (fun ds d h => by obtain ⟨i, rfl, _⟩ := h; rfl) (fun f cdv A outer s H E vs ds d Q hr hv hR q => ?_)
  obtain ⟨i, rfl, rfl⟩ := hR
  obtain ⟨v, rfl, tv⟩ := tpA1 hv
  have hmi : (cxOf CX0 P w K mg base ["value"] "is_integer" (defScope sIsInteger) f cdv A outer s H E).nox.mg "isinstance" = none := B.isi
  exact js_one (j_ret (jd_is (jd_and (jd_isi B.isi B.int bt_int kit_ii (jd_var 0 tv)) fun _ => jd_one (jd_not (jd_isi B.isi B.bool bt_bool kit_ib (jd_var 0 tv)))) rfl) q)
/-! ### call_in -/
abbrev sCallIn : Stmt := topS 22
theorem scCallIn : FnScope ["web", "standing", "person", "other"] ["web", "standing", "person"] (defScope sCallIn) := ⟨rfl, rfl, rfl, by decide +kernel, rfl, by decide +kernel, by decide +kernel⟩
def RCallIn : List PyData → PyData → Prop := fun ds d => ∃ (W : List (List Int)) (S : List Int) (p : Int), Wb W ∧ Asc W.length S ∧ (0 ≤ p ∧ p < W.length) ∧ ds = [dW W, dI S, .int p] ∧ d = dI (callM W S p)
theorem ok_call_in (B : Bt mg) (F : Df K mg "call_in" sCallIn ["web", "standing", "person"]) : OkC P w K mg base CX0 "call_in" 1 ["web", "standing", "person"] (spD RCallIn) := by
  refine ok_def F scCallIn (fun ds d h => by obtain ⟨W, S, p, _, _, _, rfl, _⟩ := h; rfl) (fun f cdv A outer s H E vs ds d Q hr hv hR q => ?_)
  obtain ⟨W, S, p, hW, hS, hp, rfl, rfl⟩ := hR
  obtain ⟨v1, v2, v3, rfl, t1, t2, t3⟩ := tpA3 hv
  have hn : W.length ≤ 7 := by have := hW.n5; omega
  refine js_cons (j_if (jt_notin (jd_var 2 t3) (jd_var 1 t2)) (fun hb H1 e1 => ?_) (fun hb H1 e1 => ?_))
  · refine js_one (j_ret (jd_var 1 (t2.ex e1)) fun v H2 e2 hv => q v H2 (e1.trans e2) ?_)
    have np : p ∉ S := by simpa using hb
    unfold callM
    rw [if_neg np]
    exact hv
  · have np : p ∈ S := by simpa using hb
    refine js_nil (js_one (j_ret (d := dI (callM W S p)) ?_ fun v H2 e2 hv => q v H2 (e1.trans e2) hv))
    unfold callM
    rw [if_pos np]
    refine jd_tupleL B.tuple (jd_lcT (i := 3) (enc := PyData.int) (g := PyData.int) scCallIn.nd (jd_var 1 (t2.ex e1)) ⟨fun _ => by simp [flt], asc_small hS hn, fun s0 H0 C cl fp a ha v H' e' hv => ?_, fun s0 H0 C cl fp a ha hf v H' e' hv => jd_var 3 hv⟩)
    exact pts_one (jt_or (jt_ge (jd_var 3 hv) (jd_var 2 (t3.ex (e1.trans e')))) fun _ => jt_notin (jd_var 3 hv) (jd_ixT (jd_var 0 (t1.ex (e1.trans e'))) (jd_is (jd_var 2 (t3.ex (e1.trans e'))) (by rw [Int.toNat_of_nonneg hp.1])) (get_W (hW.fr hp.1 hp.2))))
end
end TJ
set_option Elab.async false
set_option linter.all false
set_option maxRecDepth 100000
set_option maxHeartbeats 4000000
/-! enumerate of a tuple -/
namespace TJ
open PySem Sem
open AutoSeq1 (wpAny_loadPart')
def enIt (t : Addr) : Obj := { cls := .type "tuple_iterator", data := .fields #[.ref t, .int 0 0] }
def enOb (it : Addr) : Obj := { cls := .type "enumerate", data := .fields #[.none, .bool false, .ref it, rawInt 0, .none, .none] }
theorem enT_meets (t : Addr) (items : Array Value) (n : Nat) (dct : Option Addr) (sl : Array (Option Value)) :
    Meets (Builtin.«enumerate.__new__» ⟨[.type "enumerate", .ref t], []⟩) (fun _ R s => s.heap.get? t = some { cls := .type "tuple", dict := dct, data := .seq items n, slots := sl } ∧
      R (.ok (.ret (.ref (s.heap.push (enIt t)).objs.size))) { s with heap := (s.heap.push (enIt t)).push (enOb s.heap.objs.size) }) :=
  .of_wp fun prog w A R s h => by
    obtain ⟨hp, g, d, tk, os⟩ := s
    obtain ⟨hl, h⟩ := h
    have hsub := sub_enumerate
    have hT : Heap.IsTuple (Shared.heap ⟨hp, g, d, tk, os⟩) t items := ⟨_, hl, rfl, n, rfl⟩
    unfold enIt enOb at h
    wp_walk using wpAny_loadPart' hl
    refine wpAny_stack_any fun st => wpAny_pure ?_
    split
    · rename_i c _ _ _ _ _
      cases (c == Value.type "enumerate") <;> (wp_walk using wpAny_loadPart' hl, wpAny_pyIter_tuple hT) <;> exact ⟨_, rfl, h⟩
    · wp_walk using wpAny_loadPart' hl, wpAny_pyIter_tuple hT
      exact ⟨_, rfl, h⟩
section
variable {prog : Program} {w : World} {A : Around} {E : Value → Shared → Prop} {s : Shared}
theorem enT_call {t : Addr} {items : Array Value} {Q : Value → Shared → Prop} (hT : s.heap.IsTuple t items)
    (h : ∀ h', IsEnum h' (s.heap.objs.size + 1) s.heap.objs.size 0 .none → h'.IsTupleIter s.heap.objs.size t 0 → (∀ b o, s.heap.get? b = some o → h'.get? b = some o) → Q (.ref (s.heap.objs.size + 1)) { s with heap := h' }) :
    wpAny (model prog w) A (call (.type "enumerate") [.ref t]) Q E s := by
  obtain ⟨⟨c, dct, dt, sl⟩, hl, hc, n, hd⟩ := hT
  obtain rfl : c = .type "tuple" := hc
  obtain rfl : dt = .seq items n := hd
  have hz : (s.heap.push (enIt t)).objs.size = s.heap.objs.size + 1 := Heap.size_push ..
  refine callType_new F.called_enumerate (by decide) (F.typeCall_enumerate_1 _) (F.newCall_enumerate_1 _) (fun obj => F.args_object_init_2 obj _) F.entry_enumerate_new (enT_meets t items n dct sl) ⟨hl, ?_⟩
  show _ ∧ _
  rw [hz]
  have he : IsEnum ((s.heap.push (enIt t)).push (enOb s.heap.objs.size)) (s.heap.objs.size + 1) s.heap.objs.size 0 .none := by
    have z := Heap.get?_push_size (s.heap.push (enIt t)) (o := enOb s.heap.objs.size) rfl
    rw [hz] at z
    exact z
  exact ⟨⟨_, he, rfl⟩, h _ he ⟨_, Heap.get?_push_of_some _ (Heap.get?_push_size _ rfl), rfl, rfl⟩ fun b o x => Heap.get?_push_of_some _ (Heap.get?_push_of_some _ x)⟩
end
end TJ
namespace TJ
open PySem PySem.Spec PyProof.Rows L2
open Evl (Ex fresh_back)
/-- the tuple at a, each item in a new pair -/
def ItE (K : PySem.W.Frag) (a : Addr) : It :=
  ⟨fun i H => ∃ xs x, SqT K H a xs ∧ xs[i]? = some x, fun i H v H' => ∃ T x, v = .ref T ∧ H T = none ∧ H' = upd H T (.tup [.int (i : Nat), x]) ∧ ∀ xs, SqT K H a xs → xs[i]? = some x, fun i H => ∃ xs, SqT K H a xs ∧ xs.length = i⟩
theorem turn_enumT {P : Program} {w : World} {K : PySem.W.Frag} {elts : List Expr} {kk : Nat} {tpos : Pos} (a e it : Addr) :
    Turn P w K (.Tuple elts kk tpos) (ItE K a) [e, it] e (fun i h => (∃ old, IsEnum h e it ((i : Nat) : Int) old) ∧ h.IsTupleIter it a i ∧ e ≠ it ∧ a ≠ it ∧ e ≠ a) where
  mem := by simp
  obj := fun i h st b hb => by
    obtain ⟨⟨old, he⟩, ⟨o, ho, hc, hd⟩, _⟩ := st
    rcases (by simpa using hb : b = e ∨ b = it) with z | z
    · rw [z]; exact ⟨_, he, fun v q => nomatch q⟩
    · rw [z]; exact ⟨o, ho, fun v q => by rw [hd] at q; cases q⟩
  keep := fun i h h' st k => by
    obtain ⟨⟨old, he⟩, hi, hne⟩ := st
    exact ⟨⟨old, k e (by simp) _ he⟩, hi.at fun o q => k it (by simp) o q, hne⟩
  item := by
    intro X hP hw hK hc i pins s σ H E I hf st hg
    subst hP hw hK
    obtain ⟨⟨old, he⟩, hit, hne, hai, hea⟩ := st
    obtain ⟨xs, x, hq, hx⟩ := hg
    obtain ⟨its, rv, p, hz⟩ := I.tuple hq
    obtain ⟨u, hu, ru⟩ := rv.get hx
    have pT : s.heap.IsTuple a its.toArray := p
    have hel : e < s.heap.objs.size := Heap.lt_size he
    have hil : it < s.heap.objs.size := by obtain ⟨_, q, _⟩ := hit; exact Heap.lt_size q
    have hi : i < its.toArray.size := by
      have := (List.getElem?_eq_some_iff.mp hu).1
      simpa using this
    have hef : e ∉ [it, a] := by simp [hne, hea]
    refine wpAny_pyNext_enum_itemD (Draws.tuple (A := X.A.in1) (I.ok.hd hc) it a hai its.toArray) he ⟨hit, pT⟩ hi hne hef fun y h' tk hy ho st' hT hsz hk => ?_
    have ey : y = u := by
      have z : its.toArray[i]? = some u := by simpa using hu
      exact Option.some.inj (hy.symm.trans z)
    subst ey
    refine ⟨_, rfl, wpAny_letOwnedTupleGo_enum (s := { s with heap := h', toks := tk + 1 }) ho fun h'' he' sb => ?_⟩
    have hT2 : h''.get? s.heap.objs.size = some { cls := .type "tuple", data := .seq #[.int i tk, y] } := (sb.2 _ (Nat.ne_of_gt hel)).trans hT
    have new : ObjOk X.prog X.w (upd H s.heap.objs.size (.tup [.int (i : Nat), x])) h'' s.heap.objs.size (.tup [.int (i : Nat), x]) :=
      ⟨by show 2 ≤ sizeLine; decide, [.int i tk, y], .cons ⟨_, rfl⟩ (.cons ru .nil), ⟨_, hT2, rfl, _, rfl⟩⟩
    have I1 : Inv X pins σ (upd H s.heap.objs.size (.tup [.int (i : Nat), x])) { s with heap := h'', toks := tk + 1 } :=
      I.turnedNew (ch := [e, it]) (fun b ob hb q => (sb.2 b (fun z => hb (by simp [z]))).trans (hk b ob (fun z => hb (by simp [z])) (fun z => hb (by simp [z])) q)) hf (Nat.le_refl _) new
    refine ⟨.ref s.heap.objs.size, _, I1, rfl, ⟨_, x, rfl, I.hok.fresh (Nat.le_refl _), rfl, fun ys hy => by rw [I.tuple_inj hy hq]; exact hx⟩, ⟨⟨y, ?_⟩, st'.1.at fun o q => (sb.2 it (Ne.symm hne)).trans q, hne, hai, hea⟩, fun b hb => ?_⟩
    · rw [show ((i + 1 : Nat) : Int) = (i : Int) + 1 by omega]
      exact he'
    · have hb' : b < s.heap.objs.size := by
        rcases (by simpa using hb : b = e ∨ b = it) with z | z
        · rw [z]; exact hel
        · rw [z]; exact hil
      rw [upd_ne (Nat.ne_of_lt hb')]
      exact (hf b hb).1
  done := by
    intro X hP hw hK hc i pins s σ H E I hf st hg
    subst hP hw hK
    obtain ⟨⟨old, he⟩, hit, hne, hai, hea⟩ := st
    obtain ⟨xs, hq, hx⟩ := hg
    obtain ⟨its, rv, p, hz⟩ := I.tuple hq
    have pT : s.heap.IsTuple a its.toArray := p
    obtain ⟨f0, f1, f2, f3, f4, f5⟩ := hf it (by simp)
    have hl : its.toArray.size = i := by
      have := rv.length
      simp
      omega
    exact wpAny_pyNext_enum_endD (Draws.tuple (A := X.A.in1) (I.ok.hd hc) it a hai its.toArray) he ⟨by rw [hl]; exact hit, pT⟩ fun h' eb => ⟨rfl, I.turned (t' := s.toks) (fun b o hb q => eb b o hb q) f0 f1 f3 f4 f5⟩
  self := fun A i s Q E st h => by
    obtain ⟨⟨_, he⟩, _⟩ := st
    exact wpAny_pyIter_enum he h
def iEnT (K : PySem.W.Frag) (ta : TA) : TI := fun σ H R => ta σ H fun vs H1 => ∃ a xs, vs = [.ref a] ∧ SqT K H1 a xs ∧ R (ItE K a) H1
theorem pi_enumT {X : Cx} {e : Expr} {ta : TA} {p pos tpos : Pos} {elts : List Expr} {kk : Nat} (hg : Gl X "enumerate") (hm : X.mg "enumerate" = none) (ha : PA X [e] ta) (hs : starEach [e] X.env = [(false, eval e X.env)] := by rfl) :
    PI X (.Tuple elts kk tpos) (.Call (.Name "enumerate" p) [e] [] pos) (iEnT X.K ta) := by
  refine ⟨fun pins s σ H R I h => ?_⟩
  refine Call_ (ld_blt I hg hm bt_enum (PyProof.Rows.callWith_type1 (L2.thn (ha.run pos pins s σ H _ I h) fun us s1 ⟨vs, H1, I1, r1, q1⟩ => ?_) hs rfl))
  obtain ⟨a, xs, ex, hq, q⟩ := q1
  subst ex
  cases r1 with
  | cons r rr =>
    cases rr
    cases r
    obtain ⟨its, rv, p', hz⟩ := I1.tuple hq
    have ha : a < s1.heap.objs.size := p'.lt
    refine enT_call (show s1.heap.IsTuple a its.toArray from p') fun h' he hit hk => wpAny_pyIter_enum he ?_
    have I2 : Inv X pins σ H1 { s1 with heap := h' } := I1.kept (t' := s1.toks) hk
    refine ⟨s1.heap.objs.size + 1, [s1.heap.objs.size + 1, s1.heap.objs.size], _, _, H1, rfl, I2, turn_enumT a (s1.heap.objs.size + 1) s1.heap.objs.size, ⟨⟨.none, he⟩, hit, Nat.succ_ne_self _, Nat.ne_of_lt ha, Nat.ne_of_gt (Nat.lt_succ_of_lt ha)⟩, fun b hb => ?_, q⟩
    have hle : s1.heap.objs.size ≤ b := by
      rcases (by simpa using hb : b = s1.heap.objs.size + 1 ∨ b = s1.heap.objs.size) with z | z
      · rw [z]; exact Nat.le_succ _
      · rw [z]; exact Nat.le_refl _
    exact I1.fpOk hle (I1.hok.fresh hle)
section
variable {X : Cx} {e a b c : Expr} {es : List Expr} {σ : L2.St} {H : Hp} {pos p : Pos} {x : Str} {D : Ends} {body : List Stmt}
theorem js_mono {D1 D2 : Ends} (h : JS X body σ H D1) (hn : ∀ σ' H', D1.nx σ' H' → D2.nx σ' H') (hr : ∀ v H', D1.rt v H' → D2.rt v H') (hb : ∀ σ' H', D1.bk σ' H' → D2.bk σ' H') (hc : ∀ σ' H', D1.ct σ' H' → D2.ct σ' H') : JS X body σ H D2 := ⟨fun pins s σ3 H3 D3 I q => by
  obtain ⟨e1, e2, e3⟩ := q
  rw [e1, e2] at I
  rw [e3]
  refine L2.thn (h.run pins s σ H D1 I ⟨rfl, rfl, rfl⟩) fun f s1 q => ?_
  cases f with
  | next => obtain ⟨σ4, H4, I4, q4⟩ := q; exact ⟨σ4, H4, I4, hn _ _ q4⟩
  | cont => obtain ⟨σ4, H4, I4, q4⟩ := q; exact ⟨σ4, H4, I4, hc _ _ q4⟩
  | brk => obtain ⟨σ4, H4, I4, q4⟩ := q; exact ⟨σ4, H4, I4, hb _ _ q4⟩
  | ret v => obtain ⟨v4, σ4, H4, I4, r4, q4⟩ := q; exact ⟨v4, σ4, H4, I4, r4, hr _ _ q4⟩⟩
def tLoopE (i1 i2 : Nat) (H : Hp) (ds : List PyData) (Pv : Nat → L2.St → Prop) (D : Ends) : TS := fun D' σ' H' => ∃ z : (B : { H1 // Ex H H1 }) × Tn ds (fun j σ' H' => Ex B.1 H' ∧ Pv j σ'),
  tS ((z.2.σ'.set i1 (some (.int (z.2.j : Nat)))).set i2 (some z.2.v)) z.2.H' { D with nx := fun σ2 H2 => Ex z.1.1 H2 ∧ Pv (z.2.j + 1) σ2, ct := fun σ2 H2 => Ex z.1.1 H2 ∧ Pv (z.2.j + 1) σ2, bk := D.nx } D' σ' H'
/-- for i, y in enumerate(t): nothing but the frame is changed -/
theorem j_forE {ds : List PyData} {y1 y2 : Str} {py1 py2 p2 p3 tpos : Pos} {kk i1 i2 : Nat} (nd : X.N.Nodup) (hm : X.mg "enumerate" = none) (h : JD X a σ H (.tuple ds)) (Pv : Nat → L2.St → Prop) (h0 : Pv 0 σ)
    (hs : ∀ j d v σ' H', ds[j]? = some d → Ex H H' → Tp H' v d → Pv j σ' → JS X body ((σ'.set i1 (some (.int (j : Nat)))).set i2 (some v)) H' { D with nx := fun σ2 H2 => Ex H' H2 ∧ Pv (j + 1) σ2, ct := fun σ2 H2 => Ex H' H2 ∧ Pv (j + 1) σ2, bk := D.nx })
    (hd : ∀ σ' H', Ex H H' → Pv ds.length σ' → D.nx σ' H') (hg : Gl X "enumerate" := by rfl) (hN1 : X.N[i1]? = some y1 := by rfl) (hl1 : Loc X.env.scope y1 := by first | exact Or.inl rfl | exact Or.inr rfl) (hf1 : X.fn y1 = true ∨ X.env.scope.names.lookup y1 = some .local := by first | exact .inl rfl | exact .inr rfl)
    (hN2 : X.N[i2]? = some y2 := by rfl) (hl2 : Loc X.env.scope y2 := by first | exact Or.inl rfl | exact Or.inr rfl) (hf2 : X.fn y2 = true ∨ X.env.scope.names.lookup y2 = some .local := by first | exact .inl rfl | exact .inr rfl)
    (hp : PassesOwn (model X.prog X.w) X.A X.env X.xe := by exact PassesOwn.never) (hc : X.calm = true := by rfl) (he : starEach [a] X.env = [(false, eval a X.env)] := by rfl)
    (hsx1 : (assignEach [.Name y1 py1, .Name y2 py2] X.env).map (·.2) = assign (.Name y1 py1) X.env :: (assignEach [.Name y2 py2] X.env).map (·.2) := by rfl) (hsx2 : (assignEach [.Name y2 py2] X.env).map (·.2) = assign (.Name y2 py2) X.env :: (assignEach [] X.env).map (·.2) := by rfl)
    (hnn : (assignEach [.Name y1 py1, .Name y2 py2] X.env).length = 2 := by rfl) (hst : (assignEach [.Name y1 py1, .Name y2 py2] X.env).findIdx? (·.1) = none := by rfl)
    (hfs : ∀ x, foldedSetIterable (.Call (.Name "enumerate" p2) [a] [] p3) X.env x = pure x := by intro _; rfl) :
    J1 X (.For (.Tuple [.Name y1 py1, .Name y2 py2] kk tpos) (.Call (.Name "enumerate" p2) [a] [] p3) body [] pos) σ H D := by
  refine PS.cq (ps_for hp hc (pi_enumT hg hm (ja_cons h ja_nil he) he) (pg_tup hc (pgs_cons (pg_name (i := i1) nd hN1 hl1 hf1) (pgs_cons (pg_name (i := i2) nd hN2 hl2 hf2) pgs_nil hsx2) hsx1) hnn hst)
    (show PSs X body (tLoopE i1 i2 H ds Pv D) from PSs.fam fun z => ?_) hfs) fun D' σ' H' q => ?_
  · obtain ⟨⟨H1, e1⟩, j, d, v, σ2, H2, hj, hv, p1, p2⟩ := z
    exact js_mono (hs j d v σ2 H2 hj (e1.trans p1) hv p2) (fun σ4 H4 q => ⟨p1.trans q.1, q.2⟩) (fun _ _ q => q) (fun _ _ q => q) (fun σ4 H4 q => ⟨p1.trans q.1, q.2⟩)
  · obtain ⟨rfl, rfl, rfl⟩ := q
    refine ⟨rfl, Ex.refl _, fun vs H1 e1 hv' => ?_⟩
    obtain ⟨v, rfl, hv⟩ := tpA1 hv'
    obtain ⟨t, xs, rfl, h1, h2⟩ := tp_tup hv
    have n := h2.len
    refine ⟨t, xs, rfl, SqT.of h1, fun i m σ3 H3 => m = ds.length - i ∧ i ≤ ds.length ∧ Ex H1 H3 ∧ Pv i σ3, ⟨ds.length, by simp, Nat.zero_le _, Ex.refl _, h0⟩, ?_⟩
    rintro i m σ3 H3 ⟨rfl, hi, q1, q2⟩
    have hT : H3 t = some (.tup xs) := q1 t _ h1
    by_cases hlt : i < ds.length
    · have hx : xs[i]? = some xs[i] := by simp [n, hlt]
      obtain ⟨d, hd1, hd2⟩ := h2.at' hx
      refine .inr ⟨⟨xs, xs[i], SqT.of hT, hx⟩, fun σ4 H4 => Ex H1 H4 ∧ Pv (i + 1) σ4, fun σ4 H4 p' => ⟨ds.length - (i + 1), by omega, rfl, hlt, p'.1, p'.2⟩, fun x H4 y => ?_⟩
      obtain ⟨T, x', rfl, hTn, rfl, y⟩ := y
      have ex : xs[i] = x' := Option.some.inj (hx.symm.trans (y xs (SqT.of hT)))
      subst ex
      refine ⟨T, _, rfl, SqT.of upd_same, rfl, _, _, rfl, _, _, rfl, rfl, ?_⟩
      have q3 : Ex H1 (upd H3 T (.tup [.int (i : Nat), xs[i]])) := q1.trans (Ex.nw hTn)
      exact ⟨⟨⟨H1, e1⟩, i, d, xs[i], σ3, _, hd1, hd2.ex q3, q3, q2⟩, rfl, rfl, rfl⟩
    · have e : i = ds.length := by omega
      subst e
      exact .inl ⟨⟨xs, SqT.of hT, n⟩, hd σ3 H3 (e1.trans q1) q2⟩
end
end TJ
set_option Elab.async false
set_option linter.all false
set_option maxRecDepth 100000
set_option maxHeartbeats 4000000
/-! sets of ints out of lists and tuples, sorted -/
namespace TJ
open PySem PySem.Spec PyProof.Rows L2 Sem
open Evl (Ex fresh_back)
/-- a new set -/
def seO (w : World) : Obj := { cls := .type "set", dict := none, data := .set #[] 0 (.fresh 0 0 (!w.params.followText "set-order")) }
section
variable {P : Program} {w : World} {A : Around} {E : Value → Shared → Prop} {s : Shared}
theorem set_of_list {l : Addr} {items : Array Value} (ns : List Int) {Q : Value → Shared → Prop} (hh : A.handled = none) (hl : s.heap.IsList l items) (hit : IntsAre items.toList ns) (hb : ns.length + 1 < scanBound)
    (h : ∀ (h' : Heap) (tk c : Nat), SetR w h' s.heap.objs.size (fun j => decide (j ∈ ns)) c → c ≤ ns.length → (∀ b o, s.heap.get? b = some o → h'.get? b = some o) → Q (.ref s.heap.objs.size) { s with heap := h', toks := tk }) :
    wpAny (model P w) A (call (.type "set") [.ref l]) Q E s := by
  have hisz : items.size = ns.length := by
    have q := IntsAre.length hit
    rw [Array.length_toList] at q
    exact q
  obtain ⟨c, tl, hmro⟩ := F.called_set.mro
  have hmade := F.called_set.made
  have hsub := F.called_set.sub
  refine wpAny_call (codeAny_of_tree ?_)
  show wpAny _ _ (callAny (.type "set") _) _ _ _
  refine wpAny_pure ⟨Code.quiet_builtin _ (by decide +kernel), codeAny_builtin F.entry_type_call ?_⟩
  rw [Around.under_plain (weight_type_call_type "set" [.ref l] []) rfl]
  have h1 := F.called_set.notType
  have h2 := F.called_set.canCreate
  have hct := F.typeCall_set_1 (.ref l)
  repeat (any_goals (first | assumption | wp_step))
  refine codeAny_mono (code_set_led1 (.ref l) (E := E) (Q₁ := fun obj s₁ => obj = .ref s.heap.objs.size ∧ s₁ = { s with heap := s.heap.push (seO w) }) ⟨rfl, rfl⟩) fun r s₁ hr => ?_
  cases r with
  | error e => exact hr
  | ok fl =>
    cases fl with
    | ret obj =>
      obtain ⟨rfl, rfl⟩ := hr
      have hS : (s.heap.push (seO w)).get? s.heap.objs.size = some (seO w) := Heap.get?_push_size _ rfl
      have hT : Shared.TypeIs { s with heap := s.heap.push (seO w) } (.ref s.heap.objs.size) "set" := ⟨_, hS, rfl⟩
      have hli := F.called_set.init.lookup
      have hbi := F.called_set.init.bind (.ref s.heap.objs.size)
      repeat (any_goals (first | assumption | wp_step))
      refine codeAny_mono (codeAny_call_builtin (R := wants (fun r s₂ => r = .none ∧ ∃ h' tk c, s₂ = { s with heap := h', toks := tk } ∧ SetR w h' s.heap.objs.size (fun j => decide (j ∈ ns)) c ∧ c ≤ ns.length ∧
          (∀ b o, s.heap.get? b = some o → h'.get? b = some o)) E) F.called_set.init.plain F.entry_set_init (check_set_init_1 hT ?_)) fun r₂ s₂ hr₂ => ?_
      · obtain ⟨ol, hol, hcl, nl, hdl⟩ := hl
        obtain ⟨ocls, odict, odata, oslots⟩ := ol
        simp only at hcl hdl
        subst hcl
        subst hdl
        have hol' := Heap.get?_push_of_some (seO w) hol
        have hsls := F.sub_list_set
        have hslf := F.sub_list_frozenset
        have hne : (Value.type "list" == Value.type "dict") = false := by decide
        have hl1 : (s.heap.push (seO w)).IsList l items := ⟨_, hol', rfl, nl, rfl⟩
        unfold Builtin.«set.__init__» noKeywords Builtin.Frozenset.updateFrom
        generalize hPI : pyIter = PI
        wp_walk
        subst hPI
        refine wpAny_pyIter_list hl1 ?_
        refine wpAny_bind (wpAny_runValue ?_)
        have hlS : l < s.heap.objs.size := Heap.lt_size hol
        have hz1 : (s.heap.push (seO w)).objs.size = s.heap.objs.size + 1 := Heap.size_push ..
        have hneI : l ≠ (s.heap.push (seO w)).objs.size := by
          rw [hz1]
          exact Nat.ne_of_lt (Nat.lt_succ_of_lt hlS)
        have hSf : s.heap.objs.size ∉ [(s.heap.push (seO w)).objs.size, l] := by
          rw [hz1]
          simp only [List.mem_cons, List.not_mem_nil, or_false, not_or]
          exact ⟨Nat.ne_of_lt (Nat.lt_succ_self _), Nat.ne_of_gt hlS⟩
        have hval : ∀ (i : Nat) (v : Value), items[i]? = some v → ∃ k t, ns[i]? = some k ∧ v = .int k t := fun i v hv => by
          have hi : i < ns.length := by rw [← hisz]; exact (Array.getElem?_eq_some_iff.mp hv).1
          obtain ⟨t, e⟩ := PyProof.Rows.IntsAre.int_at hit i v (by rw [Array.getElem?_toList]; exact hv)
          refine ⟨ns[i], t, List.getElem?_eq_getElem hi, ?_⟩
          rw [e, List.getD_eq_getElem?_getD, List.getElem?_eq_getElem hi] <;> rfl
        refine set_update_ints ((Walks.list (A := A.in1.in1.in1) (by simp [hh]) _ l hneI items).toS) s.heap.objs.size hSf ns hisz hb hval (items.size - 0) 0 _ (by omega) (Nat.zero_le _) ⟨⟨_, Heap.get?_push_size _ rfl, rfl, rfl⟩, (hl1.push _)⟩ ⟨0, Nat.le_refl 0, setR_new_at (Heap.get?_push_of_some _ hS)⟩ ?_
        intro s' c' hm hc' hS'
        obtain ⟨h', g2, d', tk', os'⟩ := s'
        obtain rfl : g2 = s.gens := hm.gens
        obtain rfl : d' = s.drawn := hm.drawn
        obtain rfl : os' = s.os := hm.os
        show wpAny _ _ _ _ _ _
        refine wpAny_pure ?_
        show wpAny _ _ (ret Value.none) _ _ _
        rw [hisz] at hc'
        refine wpAny_pure ⟨rfl, h', tk', c', rfl, hS', hc', fun b o e => ?_⟩
        have hb0 : b < s.heap.objs.size := Heap.lt_size e
        refine hm.heap b o ?_ (Heap.get?_push_of_some _ (Heap.get?_push_of_some _ e))
        rw [hz1]
        simp only [List.mem_cons, List.not_mem_nil, or_false, not_or]
        exact ⟨Nat.ne_of_lt hb0, Nat.ne_of_lt (Nat.lt_succ_of_lt hb0)⟩
      · cases r₂ with
        | error e => exact hr₂
        | ok fl₂ =>
          cases fl₂ with
          | ret r =>
            obtain ⟨rfl, h', tk, c', rfl, hS', hc', hk'⟩ := hr₂
            repeat (any_goals (first | assumption | wp_step))
            exact h _ _ _ hS' hc' hk'
          | _ => exact hr₂.elim
    | _ => exact hr.elim
end
end TJ
set_option Elab.async false
set_option linter.all false
set_option maxRecDepth 100000
set_option maxHeartbeats 4000000
namespace TJ
open PySem PySem.Spec PyProof.Rows L2
open Evl (Ex fresh_back)
/-! ### sorted lists of unlike ints -/
/-- put in, once -/
def insU (x : Int) : List Int → List Int
  | [] => [x]
  | y :: r => if x < y then x :: y :: r else if x = y then y :: r else y :: insU x r
def sortU (l : List Int) : List Int := l.foldr insU []
theorem mem_insU (x z : Int) : ∀ l : List Int, z ∈ insU x l ↔ z = x ∨ z ∈ l
  | [] => by simp [insU]
  | y :: r => by
    unfold insU
    split
    · simp
    · split
      · rename_i h; subst h; simp
      · rw [List.mem_cons, mem_insU x z r, List.mem_cons]
        constructor
        · rintro (h | h | h)
          · exact .inr (.inl h)
          · exact .inl h
          · exact .inr (.inr h)
        · rintro (h | h | h)
          · exact .inr (.inl h)
          · exact .inl h
          · exact .inr (.inr h)
theorem up_insU (x : Int) : ∀ l : List Int, l.Pairwise (· < ·) → (insU x l).Pairwise (· < ·)
  | [], _ => by simp [insU]
  | y :: r, h => by
    obtain ⟨h1, h2⟩ := List.pairwise_cons.mp h
    unfold insU
    split
    · rename_i hxy
      refine List.pairwise_cons.mpr ⟨fun z hz => ?_, h⟩
      rcases List.mem_cons.mp hz with rfl | hz
      · exact hxy
      · exact Int.lt_trans hxy (h1 z hz)
    · split
      · exact h
      · rename_i n1 n2
        refine List.pairwise_cons.mpr ⟨fun z hz => ?_, up_insU x r h2⟩
        rcases (mem_insU x z r).mp hz with rfl | hz
        · omega
        · exact h1 z hz
theorem mem_sortU (z : Int) : ∀ l : List Int, z ∈ sortU l ↔ z ∈ l
  | [] => by simp [sortU]
  | y :: r => by
    show z ∈ insU y (sortU r) ↔ _
    rw [mem_insU, mem_sortU z r, List.mem_cons]
theorem up_sortU : ∀ l : List Int, (sortU l).Pairwise (· < ·)
  | [] => by simp [sortU]
  | y :: r => up_insU y _ (up_sortU r)
theorem up_same : ∀ {l m : List Int}, l.Pairwise (· < ·) → m.Pairwise (· < ·) → (∀ z, z ∈ l ↔ z ∈ m) → l = m
  | [], [], _, _, _ => rfl
  | [], y :: r, _, _, h => absurd ((h y).mpr List.mem_cons_self) (by simp)
  | x :: l, [], _, _, h => absurd ((h x).mp List.mem_cons_self) (by simp)
  | x :: l, y :: r, h1, h2, h => by
    obtain ⟨a1, a2⟩ := List.pairwise_cons.mp h1
    obtain ⟨b1, b2⟩ := List.pairwise_cons.mp h2
    have e : x = y := by
      rcases List.mem_cons.mp ((h x).mp List.mem_cons_self) with e | e
      · exact e
      · rcases List.mem_cons.mp ((h y).mpr List.mem_cons_self) with e' | e'
        · exact e'.symm
        · have := a1 y e'
          have := b1 x e
          omega
    subst e
    rw [up_same a2 b2 fun z => ⟨fun hz => ?_, fun hz => ?_⟩]
    · rcases List.mem_cons.mp ((h z).mp (List.mem_cons_of_mem _ hz)) with e | e
      · have := a1 z hz
        omega
      · exact e
    · rcases List.mem_cons.mp ((h z).mpr (List.mem_cons_of_mem _ hz)) with e | e
      · have := b1 z hz
        omega
      · exact e
theorem sortU_up {l : List Int} (h : l.Pairwise (· < ·)) : sortU l = l := up_same (up_sortU l) h fun z => mem_sortU z l
theorem sortU_same {l m : List Int} (h : ∀ z, z ∈ l ↔ z ∈ m) : sortU l = sortU m := up_same (up_sortU l) (up_sortU m) fun z => by rw [mem_sortU, mem_sortU, h]
/-! ### set(..) -/
def rSetI (K : PySem.W.Frag) (w : World) : List V → Hp → VK → Prop := fun xs H Q => ∃ (l : Addr) (ns : List Int), xs = [.ref l] ∧ (SqL K H l (ns.map V.int) ∨ SqT K H l (ns.map V.int)) ∧ ns.length ≤ 1000 ∧ ∀ a c, H a = none → c ≤ ns.length → Q (.ref a) (upd H a (SetO w a (fun j => decide (j ∈ ns)) c))
theorem cr_setI {X : Cx} (hc : X.calm = true) : CallR X (.type "set") (rSetI X.K X.w) := by
  intro pins s σ H vs us Q I r h
  obtain ⟨l, ns, rfl, hs, hn, q⟩ := h
  rw [Vals.ref1 r]
  have hb : ns.length + 1 < scanBound := by unfold scanBound; omega
  have fin : ∀ (h' : Heap) (tk c : Nat), SetR X.w h' s.heap.objs.size (fun j => decide (j ∈ ns)) c → c ≤ ns.length → (∀ b o, s.heap.get? b = some o → h'.get? b = some o) → EP X pins σ Q (.ref s.heap.objs.size) { s with heap := h', toks := tk } := fun h' tk c R hcn k =>
    ⟨.ref s.heap.objs.size, _, I.laid (t' := tk) k (Nat.le_refl _) (setO_new R), rfl, q _ c (I.hok.fresh (Nat.le_refl _)) hcn⟩
  rcases hs with hs | hs
  · obtain ⟨its, rv, hl, _⟩ := I.list hs
    exact set_of_list ns (I.ok.hd hc) hl.isList (by simpa using ints_of_vals rv) hb fin
  · obtain ⟨its, rv, hl, _⟩ := I.tuple hs
    exact call_set_tupI ns (I.ok.hd hc) (show s.heap.IsTuple l its.toArray from hl) (by simpa using ints_of_vals rv) hb fin
section
variable {X : Cx} {a : Expr} {σ : L2.St} {H : Hp} {p p2 p3 p4 : Pos}
/-- sorted(set(a)) -/
theorem jd_srtSet {l : List Int} {d : PyData} (hd : d = dL l ∨ d = dI l) (hl : l.length < 64) (hs1 : X.mg "sorted" = none) (hs2 : X.mg "set" = none) (ha : JD X a σ H d) (hc : X.calm = true := by rfl) (hg1 : Gl X "sorted" := by rfl) (hg2 : Gl X "set" := by rfl)
    (he : starEach [a] X.env = (false, eval a X.env) :: starEach [] X.env := by rfl) (he2 : starEach [.Call (.Name "set" p) [a] [] p2] X.env = (false, eval (.Call (.Name "set" p) [a] [] p2) X.env) :: starEach [] X.env := by rfl) :
    JD X (.Call (.Name "sorted" p3) [.Call (.Name "set" p) [a] [] p2] [] p4) σ H (dL (sortU l)) := by
  refine PE.cq (pe_callB (cr_sortedSet hc) hg1 hs1 bt_sorted (pa_cons (pe_callTy (cr_setI hc) hg2 hs2 bt_set (ja_cons ha ja_nil he) (he := he) (hpl := by rfl)) pa_nil he2) (he := he2) (hpl := by rfl)) fun σ' H1 Q q => ?_
  obtain ⟨rfl, e1, q⟩ := q
  refine ⟨rfl, e1, fun vs H2 e2 hvs => ?_⟩
  obtain ⟨v, rfl, hv⟩ := tpA1 hvs
  have h0 : ∃ t, v = .ref t ∧ (SqL X.K H2 t (l.map V.int) ∨ SqT X.K H2 t (l.map V.int)) := by
    rcases hd with rfl | rfl
    · obtain ⟨t, xs, rfl, h1, h2⟩ := tp_lst hv
      rw [h2.ints] at h1
      exact ⟨t, rfl, .inl (SqL.of h1)⟩
    · obtain ⟨t, xs, rfl, h1, h2⟩ := tp_tup hv
      rw [h2.ints] at h1
      exact ⟨t, rfl, .inr (SqT.of h1)⟩
  obtain ⟨t, rfl, h1⟩ := h0
  refine ⟨t, l, rfl, h1, by omega, fun a c ha hcl => ⟨a, _, c, rfl, upd_same, by omega, fun ns q2 up mem hlen hq2 => ?_⟩⟩
  have e : ns = sortU l := up_same up (up_sortU l) fun z => by rw [mem, mem_sortU, decide_eq_true_eq]
  subst e
  have x1 : Ex H2 (upd H2 a (SetO X.w a (fun j => decide (j ∈ l)) c)) := Ex.nw ha
  exact q _ _ (e2.trans (x1.trans (Ex.nw hq2))) (.lst upd_same (tpA_ints _))
end
end TJ
set_option Elab.async false
set_option linter.all false
set_option maxRecDepth 100000
set_option maxHeartbeats 4000000
/-! sorted of tuples, the empty one among them, ahead of the others -/
namespace TJ
open PySem PySem.W PySem.Calls PyProof.Rows PySem.SeqAt
section
variable {prog : Program} {w : World} {A : Around} {E : Value → Shared → Prop} {s : Shared}
open MeetsSeq MeetsSeq2 MeetsSeq3 SeqRoads2 in
theorem tup_lt_call {l b : Addr} {items items2 : Array Value} {e r : Nat → Bool} {Q : Value → Shared → Prop} (hl : s.heap.IsTuple l items) (hb : s.heap.IsTuple b items2)
    (he : ∀ j (h1 : j < items.size) (h2 : j < items2.size), EqAt A.in1 s items[j] items2[j] (e j)) (hr : ∀ j (h1 : j < items.size) (h2 : j < items2.size), e j = false → RcLt A.in1 s items[j] items2[j] (r j))
    (h : Q (.bool (firstLt e r (decide (items.size < items2.size)) (List.range (min items.size items2.size)))) s) : wpAny (model prog w) A (call (.builtin "tuple.__lt__") [.ref l, .ref b]) Q E s := by
  obtain ⟨⟨cls, dd, data, sl⟩, ho, hc, n, hd⟩ := id hl
  obtain ⟨⟨cls2, dd2, data2, sl2⟩, ho2, hc2, n2, hd2⟩ := id hb
  simp only at hc hd hc2 hd2
  subst hc hd hc2 hd2
  exact call_meets F.slot_tuple_lt ⟨_, ho, rfl⟩ F.entry_tuple_lt (F.args_tuple_lt_2 _ _) (tuple_ltAt l b items items2 n n2 dd dd2 sl sl2 e r) ⟨ho, ho2, he, hr, h⟩
theorem one_lt_tup {xs ys : List PyData} {a b : Value} {as bs : List Addr} {Q : Bool → Shared → Prop} (ra : Reads s.heap a (.tuple xs) as) (rb : Reads s.heap b (.tuple ys) bs) (hal : alikeAll xs ys = true)
    (hu : A.units + min (PyData.tuple xs).depth (PyData.tuple ys).depth < cLine) (hq : Q (dataLt (.tuple xs) (.tuple ys)) s) : wpAny (model prog w) A (oneLt' true a b) Q E s := by
  cases ra with
  | @tuple l o vs n _ as₁ h1 h2 h3 h4 =>
    cases rb with
    | @tuple l' o' vs' n' _ bs₁ k1 k2 k3 k4 =>
      have n1 : vs.size = xs.length := by simpa using ReadsAll.length _ _ _ h4
      have n2 : vs'.size = ys.length := by simpa using ReadsAll.length _ _ _ k4
      rw [dataLt_tuple, ← firstLt_toks xs ys hal, ← n1, ← n2] at hq
      rw [oneLt'_eq]
      simp only [if_true]
      refine wpAny_bind (wpAny_cRoomFor (room_here hu) ?_)
      refine wpAny_bind (wpAny_callSpecialIfBound?_slot (T := "tuple") ⟨_, h1, h2⟩ F.slot_tuple_lt (tup_lt_call (e := pairEq xs ys) (r := fun j => dataLt (xs.getD j .none) (ys.getD j .none)) ⟨_, h1, h2, _, h3⟩ ⟨_, k1, k2, _, k3⟩ (fun j j1 j2 => ?_) (fun j j1 j2 hj => ?_) ?_))
      · have := eqAt_alikeAll xs ys A.in1 s vs.toList vs'.toList _ _ h4 k4 hal (room_in hu) j (by simpa using j1) (by simpa using j2)
        simpa using this
      · have := rcLt_alikeAll xs ys A.in1 s vs.toList vs'.toList _ _ h4 k4 hal (room_in hu) j (by simpa using j1) (by simpa using j2) hj
        simpa using this
      · exact wpAny_truthy_bool hq
theorem first_tup {v : Value} {ds : List PyData} {as : List Addr} (r : Reads s.heap v (.tuple ds) as) : ∃ f : Option Value, (ds = [] → f = none) ∧ ∀ {M : Model} {E : Value → Shared → Prop} {Q : Option Value → Shared → Prop}, Q f s → wpAny M A (firstOfTuple' v) Q E s := by
  have lk := fun M => looks_reads (M := M) r
  cases r with
  | @tuple l o vs n _ as₁ h1 h2 h3 h4 =>
    refine ⟨vs[0]?, fun e => ?_, fun {M E Q} hq => ?_⟩
    · subst e
      have z : vs.toList.length = 0 := ReadsAll.length _ _ _ h4
      rw [Array.length_toList] at z
      exact Array.getElem?_eq_none (by omega)
    · rw [kas_first_eq]
      refine wpAny_bind ((lk M).here ?_)
      rw [if_neg (show ¬ ((dataType (PyData.tuple ds) != Value.type "tuple") = true) from (by decide : ¬ ((Value.type "tuple" != Value.type "tuple") = true)))]
      exact wpAny_bind (listItems_at h1 h3 (wpAny_pure hq))
theorem firsts_tup : ∀ {vs : List Value} {ds : List PyData}, EachIs (fun v d => ∃ as, Reads s.heap v d as) vs ds → (∀ d, d ∈ ds → ∃ xs, d = .tuple xs) →
    ∃ fs : List (Option Value), (ds.head? = some (.tuple []) → fs.head? = some none) ∧ ∀ {M : Model} {E : Value → Shared → Prop} {Q : List (Option Value) → Shared → Prop}, Q fs s → wpAny M A (vs.mapM firstOfTuple') Q E s
  | _, _, .nil, _ => ⟨[], fun h => by simp at h, fun hq => by rw [List.mapM_nil]; exact wpAny_pure hq⟩
  | _, _, .cons (a := v) (b := d) (as := vs) (bs := ds) ⟨as, r⟩ t, ht => by
    obtain ⟨xs, rfl⟩ := ht d (List.mem_cons_self ..)
    obtain ⟨f, f1, f2⟩ := first_tup (A := A) r
    obtain ⟨fs, g1, g2⟩ := firsts_tup t fun d hd => ht d (List.mem_cons_of_mem _ hd)
    refine ⟨f :: fs, fun h => ?_, fun {M E Q} hq => ?_⟩
    · have e : xs = [] := by simpa using h
      rw [f1 e]
      rfl
    · rw [List.mapM_cons]
      exact wpAny_bind (f2 (wpAny_bind (g2 (wpAny_pure hq))))
theorem kind_mix {vs : List Value} {ds : List PyData} (e : EachIs (fun v d => ∃ as, Reads s.heap v d as) vs ds) (ht : ∀ d, d ∈ ds → ∃ xs, d = .tuple xs) (h0 : ds.head? = some (.tuple [])) {Q : SortKind → Shared → Prop} (h : Q oneType' s) : wpAny (model prog w) A (keyKind' vs.toArray) Q E s := by
  obtain ⟨fs, f1, f2⟩ := firsts_tup (A := A) e ht
  have f0 := f1 h0
  obtain ⟨fr, rfl⟩ : ∃ fr, fs = none :: fr := by
    cases fs with
    | nil => simp at f0
    | cons a b => simp at f0; subst f0; exact ⟨b, rfl⟩
  rw [keyKind'_eq, List.mapM_toArray, map_eq_pure_bind]
  refine wpAny_bind (wpAny_bind (f2 (wpAny_pure ?_)))
  rw [if_neg (by simp), if_neg (by simp)]
  rw [oneTypeOnly'_eq, List.mapM_toArray, map_eq_pure_bind]
  have hT : ∀ v ∈ vs, ∀ M : Model, Looks M s.heap (typeOf v) (.type "tuple") := fun v hv M => by
    obtain ⟨d, hd, as, r⟩ := e.left v hv
    obtain ⟨xs, rfl⟩ := ht d hd
    exact looks_reads r
  refine wpAny_bind (wpAny_bind (wpAny_bind (kas_mapM (r := Value.type "tuple") _ (fun v hv Q' hq => (hT v hv _).here hq) (wpAny_pure ?_))))
  have hne : vs ≠ [] := by
    intro z
    subst z
    cases e
    simp at h0
  obtain ⟨v₁, rest, rfl⟩ : ∃ v₁ rest, vs = v₁ :: rest := by
    cases vs with
    | nil => exact absurd rfl hne
    | cons a b => exact ⟨a, b, rfl⟩
  have hall : ((List.map (fun _ => Value.type "tuple") (v₁ :: rest)).toArray.all fun x => x == Value.type "tuple") = true := by
    simp only [List.all_toArray, List.all_map, List.all_eq_true]
    intro _ _
    show (Value.type "tuple" == Value.type "tuple") = true
    decide
  have h00 : (List.map (fun _ => Value.type "tuple") (v₁ :: rest)).toArray[0]? = some (Value.type "tuple") := by simp
  rw [h00]
  simp only [hall, if_true]
  exact wpAny_pure (wpAny_pure h)
theorem sortsAt_mix {vs : List Value} {ds : List PyData} (e : EachIs (fun v d => ∃ as, Reads s.heap v d as) vs ds) (hal : AllAlike ds) (ht : ∀ d, d ∈ ds → ∃ xs, d = .tuple xs) (h0 : ds.head? = some (.tuple [])) (hu : ∀ d, d ∈ ds → A.units + d.depth < cLine) :
    SortsAt prog w A s (dataKind s.heap ds) vs := by
  refine ⟨fun v hv => ?_, oneType', ?_, fun h2 E Q hq => kind_mix e ht h0 hq⟩
  · obtain ⟨d, hd, as, r⟩ := e.left v hv
    exact ⟨_, dataKind_some hal hd r⟩
  · intro E x y a b Q ha hb hq
    obtain ⟨d, as, hd, ra, rfl⟩ := dataKind_inv ha
    obtain ⟨d', as', hd', rb, rfl⟩ := dataKind_inv hb
    obtain ⟨xs, rfl⟩ := ht d hd
    obtain ⟨ys, rfl⟩ := ht d' hd'
    rw [keyLt'_oneType]
    exact one_lt_tup ra rb (by simpa [alike] using hal _ hd _ hd') (Nat.lt_of_le_of_lt (Nat.add_le_add_left (Nat.min_le_left _ _) _) (hu _ hd)) hq
end
end TJ
namespace TJ
open PySem PySem.Spec PyProof.Rows L2
open Evl (Ex fresh_back)
/-- rows in order -/
def sortR (R : List (List Int)) : List (List Int) := R.mergeSort (fun a b => decide (a ≤ b))
theorem le_dI : PySem.W.dataLe false (fun r : List Int => dI r) = fun a b => decide (a ≤ b) := by
  funext a b
  rw [PySem.W.dataLe_eq]
  show (!PySem.W.dataLt (dI b) (dI a)) = _
  have e : PySem.W.dataLt (dI b) (dI a) = decide (b < a) := by
    unfold dI
    rw [PySem.W.dataLt_tuple]
    exact PySem.W.dataLt_ints b a
  rw [e]
  by_cases h : b < a
  · have h2 : ¬ a ≤ b := fun r => List.not_lt.mpr r h
    rw [decide_eq_true h, decide_eq_false h2]
    rfl
  · have h2 : a ≤ b := List.not_lt.mp h
    rw [decide_eq_false h, decide_eq_true h2]
    rfl
theorem len_sortR (R : List (List Int)) : (sortR R).length = R.length := List.length_mergeSort ..
theorem alike_dI (a b : List Int) : PySem.W.alike (dI a) (dI b) = true := by
  unfold dI
  rw [PySem.W.alike]
  exact PySem.W.alike_ints a b
theorem depth_dI (a : List Int) : (dI a).depth = 1 := by
  unfold dI
  rw [PyData.depth, dep_int0]
where
  dep_int0 : ∀ {l : List Int}, PyData.depthAll (l.map .int) + 1 = 1 := fun {l} => by rw [PySem.W.depth_ints]
/-- rows that can be sorted here -/
def SrtOk (R : List (List Int)) : Prop := (∀ r ∈ R, r ≠ []) ∨ R.head? = some []
theorem each_rel {H : Hp} : ∀ {R : List (List Int)} {xs : List V} {its : List Value}, TpA H xs (R.map dI) → Vals xs its → PySem.W.EachIs (fun v r => ∃ x : V, RelV x v ∧ Tp H x (dI r)) its R
  | [], _, _, h, r => by
    cases h
    cases r
    exact .nil
  | a :: R, _, _, h, r => by
    have h' : TpA H _ (dI a :: R.map dI) := h
    cases h' with
    | cons h1 h2 =>
      cases r with
      | cons r1 r2 => exact .cons ⟨_, r1, h1⟩ (each_rel h2 r2)
theorem rel_each {H : Hp} : ∀ {R : List (List Int)} {its : List Value}, PySem.W.EachIs (fun v r => ∃ x : V, RelV x v ∧ Tp H x (dI r)) its R → ∃ xs, Vals xs its ∧ TpA H xs (R.map dI)
  | _, _, .nil => ⟨[], .nil, .nil⟩
  | _, _, .cons ⟨x, r1, h1⟩ t => by
    obtain ⟨xs, r2, h2⟩ := rel_each t
    exact ⟨x :: xs, .cons r1 r2, .cons h1 h2⟩
def rSortR (K : PySem.W.Frag) : List V → Hp → VK → Prop := fun vs H Q => ∃ (a : Addr) (xs : List V) (R : List (List Int)), vs = [.ref a] ∧ SqL K H a xs ∧ TpA H xs (R.map dI) ∧ R.length ≤ 1000 ∧ SrtOk R ∧
  ∀ p ys, H p = none → TpA H ys ((sortR R).map dI) → Q (.ref p) (upd H p (.lst ys))
theorem cr_sortR {X : Cx} (hu : X.A.units + 64 < cLine) : CallR X (.builtin "sorted") (rSortR X.K) := by
  intro pins s σ H vs us Q I r h
  obtain ⟨a, xs, R, rfl, hs, hx, hn, hk, q⟩ := h
  obtain ⟨its, rv, hl, _⟩ := I.list hs
  rw [Vals.ref1 r]
  have e := each_rel hx rv
  have hlen : its.length = R.length := e.length
  have er : PySem.W.EachIs (fun v b => ∃ as, Reads s.heap v (dI b) as) its R := e.mono fun v b ⟨x, rx, tx⟩ => Dp.reads I (dI b) x v tx.dp rx
  have er' : PySem.W.EachIs (fun v b => ∃ as, Reads (PySem.W.sortingHeap (PySem.W.copyHeap s.heap its) (s.heap.objs.size + 1) its) v (dI b) as) its R := er.mono fun _ _ ⟨as, r⟩ => ⟨as, PyProof.Rows.Reads.keeps (fun _ _ => PySem.W.sorting_copy_old) r⟩
  have hal : PySem.W.AllAlike (R.map dI) := PySem.W.AllAlike.of alike_dI
  have hub : ∀ d, d ∈ R.map dI → X.A.in1.in1.units + d.depth < cLine := fun d hd => by
    obtain ⟨b, _, rfl⟩ := List.mem_map.mp hd
    rw [depth_dI]
    show X.A.units + 1 + 1 + 1 < cLine
    omega
  have em := PySem.W.each_map (R := fun v d => ∃ as, Reads (PySem.W.sortingHeap (PySem.W.copyHeap s.heap its) (s.heap.objs.size + 1) its) v d as) dI er'
  have S : PySem.W.SortsAt X.prog X.w X.A.in1.in1 { s with heap := PySem.W.sortingHeap (PySem.W.copyHeap s.heap its) (s.heap.objs.size + 1) its } (PySem.W.dataKind (PySem.W.sortingHeap (PySem.W.copyHeap s.heap its) (s.heap.objs.size + 1) its) (R.map dI)) its := by
    rcases hk with hk | hk
    · refine PySem.W.SortsAt.data (s := { s with heap := PySem.W.sortingHeap (PySem.W.copyHeap s.heap its) (s.heap.objs.size + 1) its }) em hal (.inl fun d hd => ?_) hub
      obtain ⟨b, hb, rfl⟩ := List.mem_map.mp hd
      cases b with
      | nil => exact absurd rfl (hk _ hb)
      | cons x r => exact ⟨_, _, rfl⟩
    · refine sortsAt_mix (s := { s with heap := PySem.W.sortingHeap (PySem.W.copyHeap s.heap its) (s.heap.objs.size + 1) its }) em hal (fun d hd => ?_) ?_ hub
      · obtain ⟨b, hb, rfl⟩ := List.mem_map.mp hd
        exact ⟨_, rfl⟩
      · cases R with
        | nil => simp at hk
        | cons b R =>
          have hb : b = [] := by simpa using hk
          subst hb
          rfl
  refine PySem.W.sorted_vals hl.isList S (by rw [hlen]; exact sz1 hn) ?_
  have so := PySem.W.sortVals_data false e er' hal
  rw [le_dI] at so
  obtain ⟨ys, ry, ty⟩ := rel_each so
  obtain ⟨ep, he'⟩ := PyProof.Rows.sortedAll_at s.heap its (PySem.W.sortVals (PySem.W.dataKind (PySem.W.sortingHeap (PySem.W.copyHeap s.heap its) (s.heap.objs.size + 1) its) (R.map dI)) false its its).toArray
  have hz : ys.length ≤ sizeLine := by
    rw [ty.len, List.length_map, List.length_mergeSort]
    exact sz1 hn
  exact ⟨.ref _, upd H (s.heap.objs.size + 1) (.lst ys), I.laid (t' := s.toks) (fun _ _ => PyProof.Rows.sortedAll_old) (Nat.le_succ _) ⟨hz, _, ep, ry, he'⟩, rfl, q _ ys (I.hok.fresh (Nat.le_succ _)) ty⟩
section
variable {X : Cx} {a : Expr} {σ : L2.St} {H : Hp} {p p2 : Pos}
/-- sorted(xs), xs a list of tuples of ints -/
theorem jd_srtR {R : List (List Int)} (hm : X.mg "sorted" = none) (ha : JD X a σ H (dR R)) (hn : R.length ≤ 1000) (hk : SrtOk R) (hu : X.A.units + 64 < cLine) (hg : Gl X "sorted" := by rfl) (he : starEach [a] X.env = (false, eval a X.env) :: starEach [] X.env := by rfl) :
    JD X (.Call (.Name "sorted" p) [a] [] p2) σ H (dR (sortR R)) := by
  refine jd_callB (cr_sortR hu) (ds := [dR R]) (fun vs H1 Q hvs q => ?_) hm bt_sorted (ja_cons ha ja_nil he) hg (he := he) (hpl := by rfl)
  obtain ⟨v, rfl, hv⟩ := tpA1 hvs
  obtain ⟨t, xs, rfl, h1, h2⟩ := tp_lst hv
  exact ⟨t, xs, R, rfl, SqL.of h1, h2, hn, hk, fun p ys hp hy => q _ _ (Ex.nw hp) (.lst upd_same (hy.ex (Ex.nw hp)))⟩
end
end TJ
set_option Elab.async false
set_option linter.all false
set_option maxRecDepth 100000
set_option maxHeartbeats 4000000
/-! least and greatest -/
namespace TJ
open PySem PySem.W PySem.Calls PyProof.Rows PySem.SeqAt
section
variable {prog : Program} {w : World} {A : Around} {E : Value → Shared → Prop} {s : Shared}
theorem min_two_walk {a b : Value} {Q : Value → Shared → Prop}
    (h : wpAny (model prog w) A.in1 (pyIter (.ref s.heap.objs.size)) (fun it s₂ => ∃ I fp wr G n P St H bt, it = .ref I ∧ WalksS prog w A.in1 I fp wr G n P St ∧ St 0 s₂ ∧ (∀ b ∈ fp, b < s₂.heap.objs.size) ∧ 0 < n ∧
      (∀ b o, H.get? b = some o → b ∉ wr) ∧ (∀ b o, H.get? b = some o → s₂.heap.get? b = some o) ∧ CmpIn prog w A.in1 .Lt H P bt ∧ ∀ v s', P (argBest bt (n - 1)) v → Moved wr G s₂ s' → Q v s') E
      { s with heap := s.heap.push { cls := .type "tuple", data := .seq #[a, b] } }) : wpAny (model prog w) A (call (.builtin "min") [a, b]) Q E s := by
  refine call_function_tree F.kind_min F.plain_min F.entry_min (F.args_min2 _ _) ?_
  show wpAny _ A.in1 (Builtin.Builtins.bindParams "min" ["key", "default"] 0 ⟨[], []⟩ >>= _) _ _ s
  refine wpAny_bind (wpAny_of_eq (show Builtin.Builtins.bindParams "min" ["key", "default"] 0 ⟨[], []⟩ = pure [none, none] from rfl) ?_)
  show wpAny _ A.in1 (newTuple [a, b] >>= _) _ _ s
  refine wpAny_bind (wpAny_newObj_type ?_)
  refine wpAny_bind (wpAny_mono h (fun it s₂ h₂ => ?_) fun _ _ e => e)
  obtain ⟨I, fp, wr, G, n, P, St, H, bt, rfl, W, hst, hfp, hn, hw, hkeep, hcmp, hQ⟩ := h₂
  refine wpAny_bind (wpAny_newObj_type ?_)
  have hSf : s₂.heap.objs.size ∉ fp := fun hm => Nat.lt_irrefl _ (hfp _ hm)
  rw [show (toString "min" ++ toString ".loop" : String) = "min.loop" by decide]
  refine wpAny_pure ⟨plainId_quiet F.plain_min_loop _, codeAny_min_loop_firstH W H hw bt hcmp s₂.heap.objs.size hSf (fresh_in hkeep) _ hn (fun b o e => Heap.get?_push_of_some _ (hkeep b o e)) (W.frame 0 s₂ _ s₂.toks hst (Nat.le_refl _) fun b _ o e => Heap.get?_push_of_some _ e) (Heap.get?_push_size _ rfl) fun v s' hP hm => ?_⟩
  exact hQ v s' hP (Moved.drop_new (tk := s₂.toks) hm (Nat.le_refl _))
/-- min(a, b) of alike data -/
theorem min_two_data {a b : Value} {x y : PyData} {as bs : List Addr} {Q : Value → Shared → Prop} (hh : A.handled = none) (ra : Reads s.heap a x as) (rb : Reads s.heap b y bs) (ha : AlikeAll [x, y]) (hu : A.units + 1 + PyData.depthAll [x, y] < cLine)
    (h : ∀ h' tk, (∀ c o, s.heap.get? c = some o → h'.get? c = some o) → Q (if dataLt y x = true then b else a) { s with heap := h', toks := tk }) : wpAny (model prog w) A (call (.builtin "min") [a, b]) Q E s := by
  have hr : ReadsAll (s.heap.push { cls := .type "tuple", data := .seq #[a, b] }) #[a, b].toList [x, y] (as ++ (bs ++ [])) := .cons (Reads.keeps (fun _ _ e => Heap.get?_push_of_some _ e) ra) (.cons (Reads.keeps (fun _ _ e => Heap.get?_push_of_some _ e) rb) .nil)
  have hT : (s.heap.push { cls := .type "tuple", data := .seq #[a, b] }).IsTuple s.heap.objs.size #[a, b] := ⟨_, Heap.get?_push_size _ rfl, rfl, 0, rfl⟩
  refine min_two_walk (iter_tupleW (A := A.in1) (s := { s with heap := s.heap.push { cls := .type "tuple", data := .seq #[a, b] } }) hh hT fun s₂ e W st hfp hw hk => ?_)
  refine ⟨_, _, _, _, _, _, _, s.heap.push { cls := .type "tuple", data := .seq #[a, b] }, _, rfl, W, st, hfp, Nat.zero_lt_succ _, hw, hk, cmpIn_lt (A := A.in1) (s := { s with heap := s.heap.push { cls := .type "tuple", data := .seq #[a, b] } }) hr ha (by show A.units + 1 + _ < _; exact hu), fun v s' hP m => ?_⟩
  obtain ⟨h', tk, rfl, hk'⟩ := moved_old e rfl m
  have fin := h h' tk fun c o q => hk' c o (Heap.get?_push_of_some _ q)
  have hv : v = if dataLt y x = true then b else a := by
    have hP' : #[a, b][argBest (fun i j => dataLt ([x, y].getD i .none) ([x, y].getD j .none)) 1]? = some v := hP
    by_cases hb : dataLt y x = true
    · have e : argBest (fun i j => dataLt ([x, y].getD i .none) ([x, y].getD j .none)) 1 = 1 := by simp [argBest, hb]
      rw [e] at hP'
      rw [if_pos hb]
      exact (Option.some.inj hP').symm
    · have e : argBest (fun i j => dataLt ([x, y].getD i .none) ([x, y].getD j .none)) 1 = 0 := by simp [argBest, hb]
      rw [e] at hP'
      rw [if_neg hb]
      exact (Option.some.inj hP').symm
  rw [hv]
  exact fin
end
end TJ
namespace TJ
open PySem PySem.Spec PyProof.Rows L2
open Evl (Ex fresh_back)
/-- one pair below another -/
def ltP (p q : Int × List Int) : Bool := decide (p.1 < q.1) || (decide (p.1 = q.1) && decide (p.2 < q.2))
def minP (p : Int × List Int) (R : List (Int × List Int)) : Int × List Int := R.foldl (fun a y => if ltP y a then y else a) p
def maxI (l : List Int) : Int := l.tail.foldl max (l.headD 0)
def minI (l : List Int) : Int := l.tail.foldl min (l.headD 0)
theorem eqv_I' (l m : List Int) : PyData.eqv (dI l) (dI m) = decide (l = m) := by
  have key : ∀ l m : List Int, PyData.eqvAll (l.map .int) (m.map .int) = decide (l = m) := by
    intro l
    induction l with
    | nil => intro m; cases m <;> simp [PyData.eqvAll]
    | cons x l ih =>
      intro m
      cases m with
      | nil => simp [PyData.eqvAll]
      | cons y m =>
        show PyData.eqvAll (.int x :: l.map .int) (.int y :: m.map .int) = _
        rw [PyData.eqvAll, ih m, PyData.eqv]
        by_cases h : x = y
        · subst h; simp
        · simp [h]
  unfold dI
  rw [PyData.eqv]
  exact key l m
theorem lt_dI (a b : List Int) : PySem.W.dataLt (dI a) (dI b) = decide (a < b) := by
  unfold dI
  rw [PySem.W.dataLt_tuple]
  exact PySem.W.dataLt_ints a b
theorem lt_dP (p q : Int × List Int) : PySem.W.dataLt (dP p) (dP q) = ltP p q := by
  unfold dP ltP
  rw [PySem.W.dataLt_pair (by simp [PySem.W.alike]) (alike_dI _ _), eqv_I', lt_dI, PyData.eqv, PySem.W.dataLt_int]
  by_cases h : p.1 = q.1
  · have h2 : ¬ p.1 < q.1 := by omega
    by_cases h3 : p.2 = q.2
    · have h4 : ¬ p.2 < q.2 := by rw [h3]; exact List.lt_irrefl _
      simp [h, h3]
    · simp [h, h3]
  · by_cases h2 : p.1 < q.1 <;> simp [h, h2]
theorem alike_dP (p q : Int × List Int) : PySem.W.alike (dP p) (dP q) = true := by
  have := alike_dI p.2 q.2
  unfold dP
  simp [PySem.W.alike, PySem.W.alikeAll, this]
theorem depA_dP : ∀ R : List (Int × List Int), PyData.depthAll (R.map dP) ≤ 2
  | [] => by simp [PyData.depthAll]
  | p :: R => by
    show PyData.depthAll (dP p :: R.map dP) ≤ 2
    have e : (dP p).depth = 2 := by
      unfold dP
      rw [PyData.depth, PyData.depthAll, PyData.depthAll, PyData.depthAll, depth_dI, PyData.depth]
      rfl
    rw [PyData.depthAll, e]
    have := depA_dP R
    omega
theorem minD_dP : ∀ (R : List (Int × List Int)) (p : Int × List Int), PySem.W.minD (dP p) (R.map dP) = dP (minP p R)
  | [], p => rfl
  | q :: R, p => by
    have e : PySem.W.minD (dP p) ((q :: R).map dP) = PySem.W.minD (if PySem.W.dataLt (dP q) (dP p) = true then dP q else dP p) (R.map dP) := rfl
    have e2 : minP p (q :: R) = minP (if ltP q p then q else p) R := rfl
    rw [e, e2, lt_dP]
    cases ltP q p
    · exact minD_dP R p
    · exact minD_dP R q
theorem allP (R : List (Int × List Int)) : PySem.W.AlikeAll (R.map dP) := ⟨fun x hx y hy => by
  obtain ⟨a, _, rfl⟩ := List.mem_map.mp hx
  obtain ⟨b, _, rfl⟩ := List.mem_map.mp hy
  exact alike_dP a b, fun x hx => by
  obtain ⟨a, _, rfl⟩ := List.mem_map.mp hx
  exact fun z => by unfold dP at z; cases z⟩
section
variable {X : Cx}
/-- min(xs), xs a list of pairs -/
def rMinPs (K : PySem.W.Frag) : List V → Hp → VK → Prop := fun vs H Q => ∃ (a : Addr) (xs : List V) (p : Int × List Int) (R : List (Int × List Int)), vs = [.ref a] ∧ SqL K H a xs ∧ TpA H xs ((p :: R).map dP) ∧ ∀ v, Tp H v (dP (minP p R)) → Q v H
theorem cr_minPs (hc : X.calm = true) (hu : X.A.units + 64 < cLine) : CallR X (.builtin "min") (rMinPs X.K) := by
  intro pins s σ H vs us Q I r h
  obtain ⟨a, xs, p, R, rfl, hs, hx, q⟩ := h
  obtain ⟨its, rv, hl, _⟩ := I.list hs
  rw [Vals.ref1 r]
  obtain ⟨as, hr⟩ := Dp.readsAll I ((p :: R).map dP) xs its hx.dp rv
  refine PySem.W.min_list_data (x := dP p) (xs := R.map dP) (vs := its.toArray) (I.ok.hd hc) hl.isList (by simpa using hr) (allP (p :: R)) (by have := depA_dP (p :: R); show X.A.units + 1 + PyData.depthAll ((p :: R).map dP) < cLine; omega) fun i v h' tk bs hi hrd hk => ?_
  have hi' : its[i]? = some v := by simpa using hi
  obtain ⟨hlt, _⟩ := List.getElem?_eq_some_iff.mp hi'
  have hlen := rv.length
  have hxi : xs[i]? = some xs[i] := by simp [hlen, hlt]
  obtain ⟨u, hu2, ru⟩ := rv.get hxi
  have eu : u = v := Option.some.inj (hu2.symm.trans hi')
  subst eu
  obtain ⟨d, hd1, hd2⟩ := hx.at' hxi
  obtain ⟨z, hz, rfl⟩ : ∃ z, z ∈ p :: R ∧ dP z = d := List.mem_map.mp (List.mem_of_getElem? hd1)
  have I2 : Inv X pins σ H { s with heap := h', toks := tk } := I.kept hk
  obtain ⟨as2, r2⟩ := Dp.reads I2 (dP z) _ u hd2.dp ru
  rw [minD_dP] at hrd
  have e := PySem.W.alike_unique _ _ _ _ _ (alike_dP _ _) r2 hrd
  rw [e] at hd2
  exact ⟨_, H, I2, ru, q _ hd2⟩
/-- min(p, q) of two pairs -/
def rMin2P : List V → Hp → VK → Prop := fun vs H Q => ∃ (x y : V) (p q : Int × List Int), vs = [x, y] ∧ Tp H x (dP p) ∧ Tp H y (dP q) ∧ Q (if ltP q p then y else x) H
theorem cr_min2P (hc : X.calm = true) (hu : X.A.units + 64 < cLine) : CallR X (.builtin "min") rMin2P := by
  intro pins s σ H vs us Q I r h
  obtain ⟨x, y, p, q, rfl, hx, hy, k⟩ := h
  obtain ⟨u1, u2, rfl, r1, r2⟩ := vals2 r
  obtain ⟨as, ra⟩ := Dp.reads I (dP p) _ u1 hx.dp r1
  obtain ⟨bs, rb⟩ := Dp.reads I (dP q) _ u2 hy.dp r2
  refine min_two_data (I.ok.hd hc) ra rb (allP [p, q]) (by have := depA_dP [p, q]; show X.A.units + 1 + PyData.depthAll ([p, q].map dP) < cLine; omega) fun h' tk hk => ?_
  rw [lt_dP]
  refine ⟨_, H, I.kept hk, ?_, k⟩
  cases ltP q p
  · exact r1
  · exact r2
end
section
variable {X : Cx} {a b : Expr} {σ : L2.St} {H : Hp} {p p2 : Pos}
theorem jd_minPs {z : Int × List Int} {R : List (Int × List Int)} (hc : X.calm = true) (hu : X.A.units + 64 < cLine) (hm : X.mg "min" = none) (ha : JD X a σ H (dPs (z :: R))) (hg : Gl X "min" := by rfl) (he : starEach [a] X.env = (false, eval a X.env) :: starEach [] X.env := by rfl) :
    JD X (.Call (.Name "min" p) [a] [] p2) σ H (dP (minP z R)) := by
  refine jd_callB (cr_minPs hc hu) (ds := [dPs (z :: R)]) (fun vs H1 Q hvs q => ?_) hm bt_min (ja_cons ha ja_nil he) hg (he := he) (hpl := by rfl)
  obtain ⟨v, rfl, hv⟩ := tpA1 hvs
  obtain ⟨t, xs, rfl, h1, h2⟩ := tp_lst hv
  exact ⟨t, xs, z, R, rfl, SqL.of h1, h2, fun v hv => q v H1 (Ex.refl _) hv⟩
theorem maxI_spec : ∀ {l : List Int} {m : Int}, m ∈ l → (∀ y ∈ l, y ≤ m) → maxI l = m := by
  have key : ∀ (l : List Int) (a m : Int), (m = a ∨ m ∈ l) → a ≤ m → (∀ y ∈ l, y ≤ m) → l.foldl max a = m := by
    intro l
    induction l with
    | nil => intro a m h _ _; rcases h with h | h <;> simp_all
    | cons x r ih =>
      intro a m h ha hy
      have hx := hy x List.mem_cons_self
      refine ih (max a x) m ?_ (by omega) fun y h' => hy y (List.mem_cons_of_mem _ h')
      rcases h with h | h
      · left; omega
      · rcases List.mem_cons.mp h with h | h
        · left; omega
        · right; exact h
  intro l m hm hy
  cases l with
  | nil => simp at hm
  | cons a r => exact key r a m (by simpa using hm) (hy a List.mem_cons_self) fun y h => hy y (List.mem_cons_of_mem _ h)
theorem minI_spec : ∀ {l : List Int} {m : Int}, m ∈ l → (∀ y ∈ l, m ≤ y) → minI l = m := by
  have key : ∀ (l : List Int) (a m : Int), (m = a ∨ m ∈ l) → m ≤ a → (∀ y ∈ l, m ≤ y) → l.foldl min a = m := by
    intro l
    induction l with
    | nil => intro a m h _ _; rcases h with h | h <;> simp_all
    | cons x r ih =>
      intro a m h ha hy
      have hx := hy x List.mem_cons_self
      refine ih (min a x) m ?_ (by omega) fun y h' => hy y (List.mem_cons_of_mem _ h')
      rcases h with h | h
      · left; omega
      · rcases List.mem_cons.mp h with h | h
        · left; omega
        · right; exact h
  intro l m hm hy
  cases l with
  | nil => simp at hm
  | cons a r => exact key r a m (by simpa using hm) (hy a List.mem_cons_self) fun y h => hy y (List.mem_cons_of_mem _ h)
theorem jd_maxI {l : List Int} (hc : X.calm = true) (h0 : 0 < l.length) (hm : X.mg "max" = none) (ha : JD X a σ H (dL l)) (hg : Gl X "max" := by rfl) (he : starEach [a] X.env = (false, eval a X.env) :: starEach [] X.env := by rfl) :
    JD X (.Call (.Name "max" p) [a] [] p2) σ H (.int (maxI l)) := by
  refine jd_callB (cr_max hc) (ds := [dL l]) (fun vs H1 Q hvs q => ?_) hm bt_max (ja_cons ha ja_nil he) hg (he := he) (hpl := by rfl)
  obtain ⟨v, rfl, hv⟩ := tpA1 hvs
  obtain ⟨t, xs, rfl, h1, h2⟩ := tp_lst hv
  rw [h2.ints] at h1
  exact ⟨t, l, rfl, SqL.of h1, h0, fun m hm hy => by rw [← maxI_spec hm hy]; exact q _ H1 (Ex.refl _) (.int _)⟩
theorem jd_minI {l : List Int} (hc : X.calm = true) (h0 : 0 < l.length) (hm : X.mg "min" = none) (ha : JD X a σ H (dL l)) (hg : Gl X "min" := by rfl) (he : starEach [a] X.env = (false, eval a X.env) :: starEach [] X.env := by rfl) :
    JD X (.Call (.Name "min" p) [a] [] p2) σ H (.int (minI l)) := by
  refine jd_callB (cr_min hc) (ds := [dL l]) (fun vs H1 Q hvs q => ?_) hm bt_min (ja_cons ha ja_nil he) hg (he := he) (hpl := by rfl)
  obtain ⟨v, rfl, hv⟩ := tpA1 hvs
  obtain ⟨t, xs, rfl, h1, h2⟩ := tp_lst hv
  rw [h2.ints] at h1
  exact ⟨t, l, rfl, SqL.of h1, h0, fun m hm hy => by rw [← minI_spec hm hy]; exact q _ H1 (Ex.refl _) (.int _)⟩
end
end TJ
set_option Elab.async false
set_option linter.all false
set_option maxRecDepth 100000
set_option maxHeartbeats 4000000
namespace TJ
open PySem PySem.Spec PyProof.Rows L2
open Evl (Ex fresh_back)
section
variable {X : Cx} {e a b c : Expr} {es : List Expr} {σ : L2.St} {H : Hp} {pos p : Pos} {x : Str} {D : Ends}
/-- *t within a display -/
theorem ja_star {ds es' : List PyData} (h : JD X e σ H (.tuple ds)) (hr : JA X es σ H es') (hs : starEach (.Starred e p :: es) X.env = (true, eval e X.env) :: starEach es X.env := by rfl) : JA X (.Starred e p :: es) σ H (ds ++ es') := PA.cq (StX.pa_star h hr hs) fun σ' H1 Q q => by
  obtain ⟨rfl, e1, q⟩ := q
  refine ⟨rfl, e1, fun v H2 e2 hv => ?_⟩
  obtain ⟨t, xs, rfl, h1, h2⟩ := tp_tup hv
  exact ⟨t, xs, rfl, .inl (SqT.of h1), rfl, e1.trans e2, fun vs H3 e3 hvs => q _ H3 (e2.trans e3) ((h2.ex e3).app hvs)⟩
/-- what stood, but at p, stands -/
def Km (p : Addr) (H H' : Hp) : Prop := ∀ a o, a ≠ p → H a = some o → H' a = some o
theorem Km.of {H' : Hp} {p : Addr} (e : Ex H H') : Km p H H' := fun a o _ h => e a o h
theorem Km.trans {H1 H2 : Hp} {p : Addr} (a : Km p H H1) (b : Km p H1 H2) : Km p H H2 := fun x o n h => b x o n (a x o n h)
theorem Km.upd {p : Addr} {o : HO} : Km p H (upd H p o) := fun a o' n h => by rw [upd_ne n]; exact h
/-- what stood while p was not there, stands -/
theorem Km.ex {H' H0 : Hp} {p : Addr} (k : Km p H H') (n : H0 p = none) (e : Ex H0 H) : Ex H0 H' := fun a o h => k a o (fun z => by rw [z, n] at h; cases h) (e a o h)
/-- a list at another place -/
theorem Km.lst {H' : Hp} {p q : Addr} {ds : List PyData} (k : Km p H H') (t : Tx H H') (n : q ≠ p) (h : Tp H (.ref q) (.list ds)) (f : fltA ds = true) : Tp H' (.ref q) (.list ds) := by
  obtain ⟨a, xs, e, h1, h2⟩ := tp_lst h
  cases e
  exact .lst (k _ _ n h1) (h2.tx t f)
mutual
theorem Tp.uniq {H : Hp} : ∀ (d : PyData) (v : V), Tp H v d → ∀ d', Tp H v d' → d = d'
  | .none, _, h, _, h' => by cases h; cases h'; rfl
  | .bool b, _, h, _, h' => by cases h; cases h'; rfl
  | .int i, _, h, _, h' => by cases h; cases h'; rfl
  | .str x, _, h, _, _ => by cases h
  | .list ds, _, h, d', h' => by
    cases h with
    | lst h1 h2 =>
      cases h' with
      | lst q1 q2 =>
        rw [h1] at q1
        cases q1
        rw [TpA.uniq ds _ h2 _ q2]
      | tup q1 q2 => rw [h1] at q1; cases q1
  | .tuple ds, _, h, d', h' => by
    cases h with
    | tup h1 h2 =>
      cases h' with
      | tup q1 q2 =>
        rw [h1] at q1
        cases q1
        rw [TpA.uniq ds _ h2 _ q2]
      | lst q1 q2 => rw [h1] at q1; cases q1
  | .dict _, _, h, _, _ => by cases h
theorem TpA.uniq {H : Hp} : ∀ (ds : List PyData) (vs : List V), TpA H vs ds → ∀ ds', TpA H vs ds' → ds = ds'
  | [], _, h, _, h' => by cases h; cases h'; rfl
  | d :: ds, _, h, _, h' => by
    cases h with
    | cons h1 h2 =>
      cases h' with
      | cons q1 q2 => rw [Tp.uniq d _ h1 _ q1, TpA.uniq ds _ h2 _ q2]
end
/-- xs.append(e), xs a list in slot i that the def has made: the list, behind it -/
theorem j_append {y : Str} {py apos cpos : Pos} {i : Nat} {l : Addr} {ds : List PyData} {d : PyData} (hσ : σ[i]? = some (some (.ref l))) (hl : Tp H (.ref l) (.list ds)) (h : JD X e σ H d) (fd : flt d = true) (fl : fltA ds = true) (hz : ds.length < 1000)
    (k : ∀ H1, Km l H H1 → Tx H H1 → Tp H1 (.ref l) (.list (ds ++ [d])) → D.nx σ H1) (hN : X.N[i]? = some y := by rfl) (hvis : Vis X.env.scope y := by first | exact Or.inl rfl | exact Or.inr (Or.inl rfl) | exact Or.inr (Or.inr rfl))
    (hd : (y == ("__debug__" : Str)) = false := by decide) (hcd : (y == ("__classdict__" : Str)) = false := by decide) (hbase : attributeBase (.Name y py) "append" X.env (eval (.Name y py) X.env) = eval (.Name y py) X.env := by rfl)
    (hfew : ((backTo cpos (starEach [e] X.env)).all (fun x => !x.1) && (backToKw cpos (keywordEach [] X.env)).all (fun x => x.1.isSome) && decide ([e].length + ([] : List Keyword).length + (if ([] : List Keyword).isEmpty then 0 else 1) < 30)) = true := by rfl)
    (hline : (apos.endLine == cpos.line) = true := by rfl) (hs : starEach [e] X.env = (false, eval e X.env) :: starEach [] X.env := by rfl) (hplain : (backTo cpos (starEach [] X.env)).any (·.1) = false := by rfl)
    (hsw : swapsWith (.Call (.Attribute (.Name y py) "append" apos) [e] [] cpos) none pos.line X.env = pure false := by rfl) : J1 X (.Expr (.Call (.Attribute (.Name y py) "append" apos) [e] [] cpos) pos) σ H D :=
  PS.cq (ps_expr (pe_bm PySem.F.plainAttrs_list PySem.F.slot_list_append PySem.F.type_list_append (mt_append : MtM X "list.append" rAppend) (jv_var (H := H) i hσ hN hvis hd hcd) (pa_cons h pa_nil hs) hbase hfew hline hs hplain) hsw) fun D' σ' H' q => by
    obtain ⟨rfl, rfl, rfl⟩ := q
    obtain ⟨l', xs, el, h1, h2⟩ := tp_lst hl
    cases el
    refine ⟨rfl, Ex.refl _, fun v H1 e1 hv => ?_⟩
    subst hv
    refine ⟨.inl ⟨rfl, xs, SqL.of (e1 _ _ h1)⟩, rfl, e1, fun v H2 e2 hv => ⟨l, xs, v, rfl, rfl, (e1.trans e2) _ _ h1, ?_, ?_⟩⟩
    · rw [h2.len]; exact sz2 (by omega)
    · have hne : ∀ ys, H2 l ≠ some (.tup ys) := fun ys z => by rw [(e1.trans e2) _ _ h1] at z; cases z
      exact k _ ((Km.of (e1.trans e2)).trans Km.upd) ((Tx.of (e1.trans e2)).trans (Tx.upd hne)) (.lst upd_same (((h2.ex (e1.trans e2)).upd fl hne).snoc (hv.upd fd hne)))
/-- xs.extend(e), e a new list -/
theorem j_extend {y : Str} {py apos cpos : Pos} {i : Nat} {l : Addr} {ds es' : List PyData} (hσ : σ[i]? = some (some (.ref l))) (hl : Tp H (.ref l) (.list ds)) (h : JD X e σ H (.list es')) (fe : fltA es' = true) (fl : fltA ds = true) (hz : ds.length + es'.length ≤ 1000)
    (k : ∀ H1, Km l H H1 → Tx H H1 → Tp H1 (.ref l) (.list (ds ++ es')) → D.nx σ H1) (hN : X.N[i]? = some y := by rfl) (hvis : Vis X.env.scope y := by first | exact Or.inl rfl | exact Or.inr (Or.inl rfl) | exact Or.inr (Or.inr rfl))
    (hd : (y == ("__debug__" : Str)) = false := by decide) (hcd : (y == ("__classdict__" : Str)) = false := by decide) (hbase : attributeBase (.Name y py) "extend" X.env (eval (.Name y py) X.env) = eval (.Name y py) X.env := by rfl)
    (hfew : ((backTo cpos (starEach [e] X.env)).all (fun x => !x.1) && (backToKw cpos (keywordEach [] X.env)).all (fun x => x.1.isSome) && decide ([e].length + ([] : List Keyword).length + (if ([] : List Keyword).isEmpty then 0 else 1) < 30)) = true := by rfl)
    (hline : (apos.endLine == cpos.line) = true := by rfl) (hs : starEach [e] X.env = (false, eval e X.env) :: starEach [] X.env := by rfl) (hplain : (backTo cpos (starEach [] X.env)).any (·.1) = false := by rfl)
    (hsw : swapsWith (.Call (.Attribute (.Name y py) "extend" apos) [e] [] cpos) none pos.line X.env = pure false := by rfl) : J1 X (.Expr (.Call (.Attribute (.Name y py) "extend" apos) [e] [] cpos) pos) σ H D :=
  PS.cq (ps_expr (pe_bm PySem.F.plainAttrs_list PySem.F.slot_list_extend PySem.F.type_list_extend (mt_extend : MtM X "list.extend" rExtend) (jv_var (H := H) i hσ hN hvis hd hcd) (pa_cons h pa_nil hs) hbase hfew hline hs hplain) hsw) fun D' σ' H' q => by
    obtain ⟨rfl, rfl, rfl⟩ := q
    obtain ⟨l', xs, el, h1, h2⟩ := tp_lst hl
    cases el
    refine ⟨rfl, Ex.refl _, fun v H1 e1 hv => ?_⟩
    subst hv
    refine ⟨.inl ⟨rfl, xs, SqL.of (e1 _ _ h1)⟩, rfl, e1, fun v H2 e2 hv => ?_⟩
    obtain ⟨b, zs, rfl, h3, h4⟩ := tp_lst hv
    refine ⟨l, b, xs, zs, rfl, rfl, (e1.trans e2) _ _ h1, h3, ?_, ?_⟩
    · rw [h2.len, h4.len]; exact sz1 hz
    · have hne : ∀ ys, H2 l ≠ some (.tup ys) := fun ys z => by rw [(e1.trans e2) _ _ h1] at z; cases z
      exact k _ ((Km.of (e1.trans e2)).trans Km.upd) ((Tx.of (e1.trans e2)).trans (Tx.upd hne)) (.lst upd_same (((h2.ex (e1.trans e2)).upd fl hne).app (h4.upd fe hne)))
end

/-! ### [elt for y1 in t1 for y2 in t2], truth values -/
theorem wipe2a (σ : L2.St) {i j : Nat} (hij : i ≠ j) (x : V) : wipe ((wipe σ [i, j]).set i (some x)) [i, j] = wipe σ [i, j] := by
  show ((((σ.set j none).set i none).set i (some x)).set j none).set i none = (σ.set j none).set i none
  rw [List.set_set, List.set_comm none none hij.symm, List.set_set, ← List.set_comm none none hij.symm, List.set_set]
theorem wipe2b (σ : L2.St) (j : Nat) (x : V) : wipe ((wipe σ [j]).set j (some x)) [j] = wipe σ [j] := wipe1 σ j x
theorem len_fm (g : Int → Int → Bool) (l2 : List Int) : ∀ l1 : List Int, (l1.flatMap fun a => l2.map (g a)).length = l1.length * l2.length
  | [] => by simp
  | a :: l1 => by rw [List.flatMap_cons, List.length_append, len_fm g l2 l1, List.length_map, List.length_cons, Nat.succ_mul, Nat.add_comm]
theorem tY {σ : L2.St} {H : Hp} {Q : Bool → Hp → Prop} (h : Q true H) : tYes σ H Q := h
def dBs (l : List Bool) : List PyData := l.map .bool
/-- two sources of ints -/
theorem jd_lc2 {X : Cx} {σ : L2.St} {H : Hp} {elt it1 it2 : Expr} {scope : Scope} {y1 y2 : Str} {p1 p2 pos : Pos} {i j : Nat} {l1 l2 : List Int} {g : Int → Int → Bool} (nd : X.N.Nodup) (hij : i ≠ j) (h1 : JD X it1 σ H (dI l1))
    (n1 : l1.length ≤ 20) (n2 : l2.length ≤ 20)
    (h2 : ∀ (s0 : Shared) (H0 : Hp) (C : Addr) (cl : List (Str × Addr)) (fp : List Addr) (a : Int), a ∈ l1 → ∀ (H' : Hp), Ex H H' → JD (X.blk s0 H0 scope (compEnvC scope cl C X.env) fp) it2 ((wipe σ [i, j]).set i (some (.int a))) H' (dI l2))
    (h3 : ∀ (s0 : Shared) (H0 : Hp) (C : Addr) (cl : List (Str × Addr)) (fp : List Addr) (a b : Int), a ∈ l1 → b ∈ l2 → ∀ (H' : Hp), Ex H H' → JD (X.blk s0 H0 scope (compEnvC scope cl C X.env) fp) elt ((((wipe σ [i, j]).set i (some (.int a))).set j none).set j (some (.int b))) H' (.bool (g a b)))
    (hc : X.calm = true := by rfl) (ok : blkC X.N X.env.scope scope [(y1, i), (y2, j)] = true := by kernel_rfl) (hN1 : X.N[i]? = some y1 := by rfl) (hN2 : X.N[j]? = some y2 := by rfl)
    (hy1 : ∀ C cl, (compEnvC scope cl C X.env).scope.names.lookup y1 = some .local := by intros; rfl) (hy2 : ∀ C cl, (compEnvC scope cl C X.env).scope.names.lookup y2 = some .local := by intros; rfl)
    (hs : ∀ x, foldedSetIterable it1 X.env x = pure x := by intro _; rfl) (hs1 : ∀ env x, foldedSetIterable it2 env x = pure x := by intro _ _; rfl) :
    JD X (.ListComp elt [⟨.Name y1 p1, it1, [], 0⟩, ⟨.Name y2 p2, it2, [], 0⟩] scope pos) σ H (dB (l1.flatMap fun a => l2.map (g a))) := by
  let t2 : TE := fun σ2 H2 Q => ∃ z : { z : Int × Hp // z.1 ∈ l1 ∧ Ex H z.2 }, tD ((wipe σ [i, j]).set i (some (.int z.1.1))) z.1.2 (dI l2) σ2 H2 Q
  let t3 : TE := fun σ2 H2 Q => ∃ z : { z : Int × Int × Hp // z.1 ∈ l1 ∧ z.2.1 ∈ l2 ∧ Ex H z.2.2 }, tD ((((wipe σ [i, j]).set i (some (.int z.1.1))).set j none).set j (some (.int z.1.2.1))) z.1.2.2 (.bool (g z.1.1 z.1.2.1)) σ2 H2 Q
  refine PE.cq (pe_lc2 (own := [(y1, i), (y2, j)]) (vs1 := [j]) (g := gName i) (tt := tYes) (g1 := gName j) (tt1 := tYes) (wi1 := iTup X.K t2) (te := t3) hc nd (pi_tup h1) (blkOk_by ok) (by simp)
    (fun s0 H0 C cl fp => pg_name nd hN1 (.inl (hy1 C cl)) (.inr (hy1 C cl))) (fun s0 H0 C cl fp => pts_nil) (fun s0 H0 C cl fp => pi_tup (PE.fam fun z => h2 s0 H0 C cl fp z.1.1 z.2.1 z.1.2 z.2.2)) (fun s0 H0 C cl fp => pg_name nd hN2 (.inl (hy2 C cl)) (.inr (hy2 C cl))) (fun s0 H0 C cl fp => pts_nil)
    (fun s0 H0 C cl fp => PE.fam fun z => h3 s0 H0 C cl fp z.1.1 z.1.2.1 z.2.1 z.2.2.1 z.1.2.2 z.2.2.2) hs hs1) fun σ' H1 Q q => ?_
  obtain ⟨rfl, e1, q⟩ := q
  refine ⟨rfl, e1, fun v H2 e2 hv => ?_⟩
  obtain ⟨t, xs, rfl, q1, q2⟩ := tp_tup hv
  have exs := q2.ints
  subst exs
  refine ⟨t, rfl, ⟨_, SqT.of q1⟩, fun D hD => ?_⟩
  let Pv : Nat → List Bool → Hp → Prop := fun i L H' => Ex H2 H' ∧ H' D = some (.lst ((((l1.take i).flatMap fun a => l2.map (g a)) ++ L).map V.bl))
  have lenP : ∀ (i' j' : Nat) (a : Int), i' ≤ l1.length → j' ≤ l2.length → ((((l1.take i').flatMap fun a => l2.map (g a)) ++ (l2.take j').map (g a)).map V.bl).length < sizeLine := fun i' j' a hi hj => by
    have e := len_fm g l2 (l1.take i')
    have h1 : (l1.take i').length ≤ 20 := by rw [List.length_take]; omega
    have h2 : (l1.take i').length * l2.length ≤ 20 * 20 := Nat.mul_le_mul h1 n2
    have h3 : (l2.take j').length ≤ 20 := by rw [List.length_take]; omega
    rw [List.length_map, List.length_append, e, List.length_map]
    exact sz2 (by omega)
  refine ⟨fun i' m H' => m = l1.length - i' ∧ i' ≤ l1.length ∧ Pv i' [] H', ⟨l1.length, by simp, Nat.zero_le _, Ex.nw hD, by simp; exact upd_same⟩, ?_⟩
  rintro i' m H' ⟨rfl, hi, p1, p2⟩
  have hT : H' t = some (.tup (l1.map V.int)) := p1 t _ q1
  by_cases hlt : i' < l1.length
  · have hx : (l1.map V.int)[i']? = some (.int l1[i']) := by simp [hlt]
    refine .inr ⟨⟨_, _, SqT.of hT, hx⟩, fun H3 => Pv (i' + 1) [] H3, fun H3 p' => ⟨l1.length - (i' + 1), by omega, rfl, hlt, p'⟩, fun x H3 y => ?_⟩
    obtain ⟨rfl, y⟩ := y
    have ex := (y _ (SqT.of hT)).symm.trans hx
    have ex := Option.some.inj ex
    subst ex
    have mem : l1[i'] ∈ l1 := List.getElem_mem hlt
    refine ⟨wipe2a _ hij _, ?_⟩
    refine tY ?_
    dsimp only
    rw [if_pos rfl]
    refine ⟨⟨(l1[i'], H3), mem, (e1.trans e2).trans p1⟩, rfl, Ex.refl _, fun v H4 e4 hv => ?_⟩
    obtain ⟨t', ys, rfl, r1, r2⟩ := tp_tup hv
    have eys := r2.ints
    subst eys
    refine ⟨t', rfl, ⟨_, SqT.of r1⟩, fun j' k H5 => k = l2.length - j' ∧ j' ≤ l2.length ∧ Pv i' ((l2.take j').map (g l1[i'])) H5 ∧ H5 t' = some (.tup (l2.map V.int)), ⟨l2.length, by simp, Nat.zero_le _, ⟨p1.trans e4, by simpa using e4 _ _ p2⟩, r1⟩, ?_⟩
    rintro j' k H5 ⟨rfl, hj, ⟨w1, w2⟩, w3⟩
    by_cases hlt2 : j' < l2.length
    · have hx2 : (l2.map V.int)[j']? = some (.int l2[j']) := by simp [hlt2]
      refine .inr ⟨⟨_, _, SqT.of w3, hx2⟩, fun H6 => Pv i' ((l2.take (j' + 1)).map (g l1[i'])) H6 ∧ H6 t' = some (.tup (l2.map V.int)), fun H6 p' => ⟨l2.length - (j' + 1), by omega, rfl, hlt2, p'⟩, fun x H6 y => ?_⟩
      obtain ⟨rfl, y⟩ := y
      have ex := (y _ (SqT.of w3)).symm.trans hx2
      have ex := Option.some.inj ex
      subst ex
      have mem2 : l2[j'] ∈ l2 := List.getElem_mem hlt2
      refine ⟨wipe2b _ _ _, ?_⟩
      refine tY ?_
      dsimp only
      rw [if_pos rfl]
      refine ⟨⟨(l1[i'], l2[j'], H6), mem, mem2, (e1.trans e2).trans w1⟩, rfl, Ex.refl _, fun v H7 e7 hv => ?_⟩
      rw [tp_bl hv]
      have hne : t' ≠ D := ne_of (e7 _ _ w3) (e7 _ _ w2) (fun z => by cases z)
      refine ⟨_, e7 _ _ w2, lenP i' j' _ hi hj, ⟨Evl.Ex.mut (w1.trans e7) hD, ?_⟩, ?_⟩
      · rw [upd_same]
        have e : l2.take (j' + 1) = l2.take j' ++ [l2[j']] := by rw [List.take_add_one]; simp [hlt2]
        rw [e]
        simp only [List.map_append, List.append_assoc]
        rfl
      · rw [upd_ne hne]
        exact e7 _ _ w3
    · have e : j' = l2.length := by omega
      subst e
      refine .inl ⟨⟨_, SqT.of w3, by simp⟩, w1, ?_⟩
      rw [List.take_length] at w2
      have e : l1.take (i' + 1) = l1.take i' ++ [l1[i']] := by rw [List.take_add_one]; simp [hlt]
      rw [w2, e, List.flatMap_append, List.append_nil, List.flatMap_cons, List.flatMap_nil, List.append_nil]
  · have e : i' = l1.length := by omega
    subst e
    refine .inl ⟨⟨_, SqT.of hT, by simp⟩, q _ _ (e2.trans p1) ?_⟩
    rw [List.append_nil, List.take_length] at p2
    refine .lst p2 ?_
    have tb : ∀ l : List Bool, TpA H' (l.map V.bl) (l.map .bool) := fun l => by
      induction l with
      | nil => exact .nil
      | cons b l ih => exact .cons (.bl b) ih
    exact tb _
end TJ
set_option Elab.async false
set_option linter.all false
set_option maxRecDepth 100000
set_option maxHeartbeats 4000000
namespace TJ
open PySem PySem.Spec PyProof.Rows L2
open Evl (Ex fresh_back)
section
variable {X : Cx} {e a b c : Expr} {es : List Expr} {σ : L2.St} {H : Hp} {pos p : Pos} {x : Str} {D : Ends}
/-- a new list -/
def tN (σ : L2.St) (H : Hp) (ds : List PyData) : TE := fun σ' H1 Q => σ' = σ ∧ Ex H H1 ∧ ∀ p H2, H1 p = none → Ex H1 H2 → Tp H2 (.ref p) (.list ds) → Q (.ref p) H2
abbrev JN (X : Cx) (e : Expr) (σ : L2.St) (H : Hp) (ds : List PyData) : Prop := PE X e (tN σ H ds)
theorem jn_lst {ds : List PyData} (ha : JA X es σ H ds) (hl : ds.length ≤ 1000 := by first | decide | exact Nat.le_of_ble_eq_true rfl) : JN X (.List es pos) σ H ds := PE.cq (pe_lst ha) fun σ' H1 Q q => by
  obtain ⟨rfl, e1, q⟩ := q
  exact ⟨rfl, e1, fun vs H2 e2 hvs => ⟨by rw [hvs.len]; exact sz1 hl, fun t ht => q _ _ (fresh_back e2 ht) (e2.trans (Ex.nw ht)) (.lst upd_same (hvs.ex (Ex.nw ht)))⟩⟩
theorem j_setN {y : Str} {py : Pos} {i : Nat} {ds : List PyData} (nd : X.N.Nodup) (h : JN X e σ H ds) (k : ∀ p H1, H p = none → Ex H H1 → Tp H1 (.ref p) (.list ds) → D.nx (σ.set i (some (.ref p))) H1) (hN : X.N[i]? = some y := by rfl) (hl : Loc X.env.scope y := by first | exact Or.inl rfl | exact Or.inr rfl)
    (hs : swapsWith e (some (.Name y py)) pos.line X.env = pure false := by rfl) (hf : X.fn y = true ∨ X.env.scope.names.lookup y = some .local := by first | exact .inl rfl | exact .inr rfl) : J1 X (.Assign [.Name y py] e pos) σ H D :=
  PS.cq (ps_set nd hN hl h hs hf) fun D' σ' H' q => by
    obtain ⟨rfl, rfl, rfl⟩ := q
    exact ⟨rfl, Ex.refl _, fun p H1 hp e1 hv => k p H1 hp e1 hv⟩
/-- y = [elt for z in t if ..] -/
theorem j_setLcT {α : Type} {elt iter : Expr} {ifs : List Expr} {scope : Scope} {y z : Str} {py pz spos : Pos} {i iy : Nat} {l : List α} {enc : α → PyData} {f : α → Bool} {g : α → PyData} (nd : X.N.Nodup) (hi : JD X iter σ H (.tuple (l.map enc))) (L : LcOk X elt ifs scope i σ H l enc f g)
    (k : ∀ v H1, Ex H H1 → Tp H1 v (.list ((l.filter f).map g)) → D.nx (σ.set iy (some v)) H1)
    (hNy : X.N[iy]? = some y := by rfl) (hyl : X.env.scope.names.lookup y = some .local := by rfl) (hsw : swapsWith (.ListComp elt [⟨.Name z pz, iter, ifs, 0⟩] scope pos) (some (.Name y py)) spos.line X.env = pure true := by exact sw_true rfl rfl rfl (by decide +kernel))
    (hc : X.calm = true := by rfl) (ok : blkC X.N X.env.scope scope [(z, i)] = true := by kernel_rfl) (hN : X.N[i]? = some z := by rfl) (hz : ∀ C cl, Loc (compEnvC scope cl C X.env).scope z := by first | (intros; exact Or.inl rfl) | (intros; exact Or.inr rfl)) (hzf : ∀ s0 H0 C cl fp, (X.blk s0 H0 scope (compEnvC scope cl C X.env) fp).fn z = true ∨ (compEnvC scope cl C X.env).scope.names.lookup z = some .local := by first | (intros; exact Or.inr rfl) | (intros; exact Or.inl rfl)) (hs : ∀ x, foldedSetIterable iter X.env x = pure x := by intro _; rfl) :
    J1 X (.Assign [.Name y py] (.ListComp elt [⟨.Name z pz, iter, ifs, 0⟩] scope pos) spos) σ H D :=
  PS.cq (ps_setLc (own := [(z, i)]) (g := gName i) hc nd hNy hyl hsw (pi_tup hi) (blkOk_by ok) (fun s0 H0 C cl fp => pg_name nd hN (hz C cl) (hzf s0 H0 C cl fp)) (fun s0 H0 C cl fp => lc_tests L s0 H0 C cl fp) (fun s0 H0 C cl fp => lc_elts L s0 H0 C cl fp) hs) fun D' σ' H' q => by
    obtain ⟨rfl, rfl, rfl⟩ := q
    exact lc_readT (Q := fun v H1 => gName iy v σ' H1 D'.nx) L.len L.ft ⟨rfl, Ex.refl _, fun v H1 e1 hv => k v H1 e1 hv⟩
theorem j_setLcL {α : Type} {elt iter : Expr} {ifs : List Expr} {scope : Scope} {y z : Str} {py pz spos : Pos} {i iy : Nat} {l : List α} {enc : α → PyData} {f : α → Bool} {g : α → PyData} (nd : X.N.Nodup) (hi : JD X iter σ H (.list (l.map enc))) (L : LcOk X elt ifs scope i σ H l enc f g)
    (k : ∀ v H1, Ex H H1 → Tp H1 v (.list ((l.filter f).map g)) → D.nx (σ.set iy (some v)) H1)
    (hNy : X.N[iy]? = some y := by rfl) (hyl : X.env.scope.names.lookup y = some .local := by rfl) (hsw : swapsWith (.ListComp elt [⟨.Name z pz, iter, ifs, 0⟩] scope pos) (some (.Name y py)) spos.line X.env = pure true := by exact sw_true rfl rfl rfl (by decide +kernel))
    (hc : X.calm = true := by rfl) (ok : blkC X.N X.env.scope scope [(z, i)] = true := by kernel_rfl) (hN : X.N[i]? = some z := by rfl) (hz : ∀ C cl, Loc (compEnvC scope cl C X.env).scope z := by first | (intros; exact Or.inl rfl) | (intros; exact Or.inr rfl)) (hzf : ∀ s0 H0 C cl fp, (X.blk s0 H0 scope (compEnvC scope cl C X.env) fp).fn z = true ∨ (compEnvC scope cl C X.env).scope.names.lookup z = some .local := by first | (intros; exact Or.inr rfl) | (intros; exact Or.inl rfl)) (hs : ∀ x, foldedSetIterable iter X.env x = pure x := by intro _; rfl) :
    J1 X (.Assign [.Name y py] (.ListComp elt [⟨.Name z pz, iter, ifs, 0⟩] scope pos) spos) σ H D :=
  PS.cq (ps_setLc (own := [(z, i)]) (g := gName i) hc nd hNy hyl hsw (pi_list hi) (blkOk_by ok) (fun s0 H0 C cl fp => pg_name nd hN (hz C cl) (hzf s0 H0 C cl fp)) (fun s0 H0 C cl fp => lc_tests L s0 H0 C cl fp) (fun s0 H0 C cl fp => lc_elts L s0 H0 C cl fp) hs) fun D' σ' H' q => by
    obtain ⟨rfl, rfl, rfl⟩ := q
    exact lc_readL (Q := fun v H1 => gName iy v σ' H1 D'.nx) L.len L.ft ⟨rfl, Ex.refl _, fun v H1 e1 hv => k v H1 e1 hv⟩
end
theorem flt_A_I (R : List (List Int)) : fltA (R.map dI) = true := fltA_map dI flt_I R
theorem flt_A_P (R : List (Int × List Int)) : fltA (R.map dP) = true := fltA_map dP flt_P R
theorem flt_A_int (R : List Int) : fltA (R.map .int) = true := fltA_map _ flt_int R
/-! ### what the program reckons -/
def tallM (W : List (List Int)) (p : Int) : List Int := (fr W p).filter fun o => decide (p < o)
def apartM (W : List (List Int)) (S : List Int) : Bool := !((S.flatMap fun one => S.map fun other => decide (other ∈ fr W one)).any id)
def choicesM (S : List Int) : List (List Int) := S.foldl (fun f p => f ++ f.map (· ++ [p])) [[]]
def lowF (W : List (List Int)) (p : Int) (G : List Int) : Bool := (fr W p).any fun o => decide (o < p) && decide (o ∈ G)
def moversM (W : List (List Int)) (S : List Int) : List Int := S.filter fun p => lowF W p S
def mayM (W : List (List Int)) (S G : List Int) : List Int := S.filter fun p => !lowF W p G
def fitsM (W : List (List Int)) (S G : List Int) : Bool := (G.all fun p => decide (p ∈ S)) && ((S.filter fun p => !decide (p ∈ G)).all fun p => (tallM W p).any fun o => decide (o ∈ mayM W S G))
def goM (W : List (List Int)) (S : List Int) (L : List Int) : List Int := L.foldl (callM W) S
def leadsM (W : List (List Int)) (S G : List Int) (L : List Int) : Bool := decide (goM W S L = G)
def tellM (W : List (List Int)) (S G : List Int) : List (List Int) := sortR ((choicesM (mayM W S G)).filter (leadsM W S G))
def endsM (W : List (List Int)) (S : List Int) : List (List Int) := sortR ((choicesM S).filter fun r => apartM W r && fitsM W S r)
/-! choices -/
theorem choices_snoc (S : List Int) (p : Int) : choicesM (S ++ [p]) = choicesM S ++ (choicesM S).map (· ++ [p]) := by
  unfold choicesM
  rw [List.foldl_append]
  rfl
theorem choices_take {S : List Int} {j : Nat} {p : Int} (h : S[j]? = some p) : choicesM (S.take (j + 1)) = choicesM (S.take j) ++ (choicesM (S.take j)).map (· ++ [p]) := by
  have e : S.take (j + 1) = S.take j ++ [p] := by rw [List.take_add_one, h]; rfl
  rw [e, choices_snoc]
/-- by the last one -/
theorem rev_ind {P : List Int → Prop} (h0 : P []) (h1 : ∀ S p, P S → P (S ++ [p])) : ∀ S, P S := by
  have key : ∀ n (S : List Int), S.length = n → P S := by
    intro n
    induction n with
    | zero => intro S h; rw [List.eq_nil_of_length_eq_zero h]; exact h0
    | succ n ih =>
      intro S h
      have hne : S ≠ [] := by intro z; rw [z] at h; simp at h
      rw [← List.dropLast_concat_getLast hne]
      exact h1 _ _ (ih _ (by rw [List.length_dropLast]; omega))
  exact fun S => key S.length S rfl
theorem choices_len : ∀ S : List Int, (choicesM S).length = 2 ^ S.length := rev_ind (by rfl) fun S p ih => by
  rw [choices_snoc, List.length_append, List.length_map, ih, List.length_append, List.length_singleton, Nat.pow_succ]
  omega
theorem mem_choices : ∀ (S r : List Int), r ∈ choicesM S ↔ r.Sublist S := by
  refine rev_ind (fun r => by simp [choicesM]) fun S p ih r => ?_
  rw [choices_snoc, List.mem_append, List.mem_map, ih]
  constructor
  · rintro (h | ⟨t, ht, rfl⟩)
    · exact h.trans (List.sublist_append_left S [p])
    · exact ((ih t).mp ht).append (List.Sublist.refl [p])
  · intro h
    obtain ⟨l1, l2, rfl, h1, h2⟩ := List.sublist_append_iff.mp h
    cases h2 with
    | cons _ h =>
      rw [List.sublist_nil.mp h, List.append_nil]
      exact .inl h1
    | cons_cons _ h =>
      rw [List.sublist_nil.mp h]
      exact .inr ⟨l1, (ih l1).mpr h1, rfl⟩
theorem choices_head : ∀ S : List Int, ∃ R, choicesM S = [] :: R ∧ ∀ r ∈ R, r ≠ [] := rev_ind ⟨[], rfl, fun _ h => by simp at h⟩ fun S p ⟨R, e, h⟩ => by
  rw [choices_snoc, e]
  refine ⟨R ++ (([] : List Int) :: R).map (· ++ [p]), rfl, fun r hr => ?_⟩
  rcases List.mem_append.mp hr with hr | hr
  · exact h r hr
  · obtain ⟨t, _, rfl⟩ := List.mem_map.mp hr
    simp
theorem srt_choices (S : List Int) (f : List Int → Bool) : SrtOk ((choicesM S).filter f) := by
  obtain ⟨R, e, h⟩ := choices_head S
  rw [e, List.filter_cons]
  by_cases hf : f [] = true
  · rw [if_pos hf]
    exact .inr rfl
  · rw [if_neg hf]
    exact .inl fun r hr => h r (List.mem_filter.mp hr).1
theorem asc_sub {n : Nat} {S r : List Int} (h : Asc n S) (hr : r.Sublist S) : Asc n r := ⟨h.up.sublist hr, fun x hx => h.lt x (hr.subset hx)⟩
theorem choices_small {n : Nat} {S : List Int} (h : Asc n S) (hn : n ≤ 7) : (choicesM S).length ≤ 128 := by
  rw [choices_len]
  have := asc_len h
  calc 2 ^ S.length ≤ 2 ^ 7 := Nat.pow_le_pow_right (by decide) (by omega)
    _ = 128 := by decide
end TJ
set_option Elab.async false
set_option linter.all false
set_option maxRecDepth 100000
set_option maxHeartbeats 4000000
namespace TJ
open PySem PySem.Spec PyProof.Rows L2
open Evl (Ex fresh_back)
section
variable {X : Cx} {a b c : Expr} {σ : L2.St} {H : Hp} {pos p : Pos}
theorem jd_chainLe {i j k : Int} (ha : JD X a σ H (.int i)) (hb : JD X b σ H (.int j)) (hc : JD X c σ H (.int k)) (hm : lastMarks [.LtE, .LtE] [b, c] = false := by with_unfolding_all rfl) : JD X (.Compare a [.LtE, .LtE] [b, c] pos) σ H (.bool (decide (i ≤ j) && decide (j ≤ k))) :=
  PE.cq (pe_chain op_le op_le ha hb hc hm) fun σ' H1 Q q => by
    obtain ⟨rfl, e1, q⟩ := q
    refine ⟨rfl, e1, fun x H2 e2 hx => ⟨rfl, e1.trans e2, fun y H3 e3 hy => ⟨i, j, tp_int hx, tp_int hy, _, rfl, ?_⟩⟩⟩
    by_cases h : i ≤ j
    · rw [decide_eq_true h] at q ⊢
      exact iteT ⟨rfl, (e1.trans e2).trans e3, fun z H4 e4 hz => ⟨j, k, tp_int hy, tp_int hz, q _ _ ((e2.trans e3).trans e4) (.bl _)⟩⟩
    · rw [decide_eq_false h] at q ⊢
      exact iteF (q _ _ (e2.trans e3) (.bl _))
end
/-! equality of data -/
theorem eqvA_ints : ∀ l m : List Int, PyData.eqvAll (l.map .int) (m.map .int) = decide (l = m)
  | [], [] => by simp [PyData.eqvAll]
  | [], y :: m => by simp [PyData.eqvAll]
  | x :: l, [] => by simp [PyData.eqvAll]
  | x :: l, y :: m => by
    show PyData.eqvAll (.int x :: l.map .int) (.int y :: m.map .int) = _
    rw [PyData.eqvAll, eqvA_ints l m, PyData.eqv]
    by_cases h : x = y
    · subst h; simp
    · simp [h]
theorem eqv_L (l m : List Int) : PyData.eqv (dL l) (dL m) = decide (l = m) := by
  unfold dL
  rw [PyData.eqv]
  exact eqvA_ints l m
theorem eqv_I (l m : List Int) : PyData.eqv (dI l) (dI m) = decide (l = m) := by
  unfold dI
  rw [PyData.eqv]
  exact eqvA_ints l m
theorem lay_ints : ∀ l : List Int, PyData.canLayAll0 (l.map .int) = true
  | [] => by simp [PyData.canLayAll0]
  | x :: l => by
    show PyData.canLayAll0 (.int x :: l.map .int) = true
    rw [PyData.canLayAll0, lay_ints l, PyData.canLay0]
    rfl
theorem dep_ints : ∀ l : List Int, PyData.depthAll (l.map .int) = 0
  | [] => by simp [PyData.depthAll]
  | x :: l => by
    show PyData.depthAll (.int x :: l.map .int) = 0
    rw [PyData.depthAll, dep_ints l, PyData.depth]
    rfl
theorem shp_L (l : List Int) : SeqAt.shaped (dL l) = true := by
  unfold SeqAt.shaped dL
  rw [PyData.canLay0, lay_ints, PyData.depth, dep_ints]
  decide
theorem shp_I (l : List Int) : SeqAt.shaped (dI l) = true := by
  unfold SeqAt.shaped dI
  rw [PyData.canLay0, lay_ints, PyData.depth, dep_ints]
  decide
theorem insU_len (x : Int) : ∀ l : List Int, x ∉ l → (insU x l).length = l.length + 1
  | [], _ => by simp [insU]
  | y :: r, h => by
    have h1 : x ≠ y := fun e => h (by simp [e])
    have h2 : x ∉ r := fun e => h (by simp [e])
    unfold insU
    split
    · simp
    · rw [List.length_cons, insU_len x r h2, List.length_cons]
theorem asc_but {n : Nat} {l : List Int} {i : Int} (h : Asc n l) (hi : 0 ≤ i ∧ i < n) (hn : i ∉ l) : l.length + 1 ≤ n := by
  have q : Asc n (insU i l) := ⟨up_insU i l h.up, fun x hx => by
    rcases (mem_insU i x l).mp hx with rfl | hx
    · exact hi
    · exact h.lt x hx⟩
  have := asc_len q
  rw [insU_len i l hn] at this
  exact this
section
variable {P : Program} {w : World} {K : PySem.W.Frag} {mg : Str → Option Value} {base : Heap}
/-! ### is_in, is_list -/
abbrev sIsIn : Stmt := topS 2
theorem scIsIn : FnScope ["value", "least", "most"] ["value", "least", "most"] (defScope sIsIn) := ⟨rfl, rfl, rfl, by decide +kernel, rfl, by decide +kernel, by decide +kernel⟩
def RIsIn : List PyData → PyData → Prop := fun ds d => ∃ i lo hi : Int, ds = [.int i, .int lo, .int hi] ∧ d = .bool (decide (lo ≤ i) && decide (i ≤ hi))
theorem ok_is_in (F : Df K mg "is_in" sIsIn ["value", "least", "most"]) (O1 : OkC P w K mg base CX0 "is_integer" 1 ["value"] (spD RIsInteger)) : OkC P w K mg base CX0 "is_in" 2 ["value", "least", "most"] (spD RIsIn) := by
  refine ok_def F scIsIn (fun ds d h => by obtain ⟨i, lo, hi, rfl, _⟩ := h; rfl) (fun f cdv A outer s H E vs ds d Q hr hv hR q => ?_)
  obtain ⟨i, lo, hi, rfl, rfl⟩ := hR
  obtain ⟨v1, v2, v3, rfl, t1, t2, t3⟩ := tpA3 hv
  exact js_one (j_ret (jd_is (jd_and (jd_call O1 hr (ja_cons (jd_var 0 t1) ja_nil) ⟨i, rfl, rfl⟩) fun _ => jd_one (jd_chainLe (jd_var 1 t2) (jd_var 0 t1) (jd_var 2 t3))) (by rw [Bool.true_and])) q)
abbrev sIsList : Stmt := topS 3
theorem scIsList : FnScope ["value", "least", "most"] ["value", "least", "most"] (defScope sIsList) := ⟨rfl, rfl, rfl, by decide +kernel, rfl, by decide +kernel, by decide +kernel⟩
def RIsList : List PyData → PyData → Prop := fun ds d => ∃ (xs : List PyData) (lo hi : Int), ds = [.tuple xs, .int lo, .int hi] ∧ d = .bool (decide (lo ≤ xs.length) && decide (xs.length ≤ hi))
theorem ok_is_list (B : Bt mg) (F : Df K mg "is_list" sIsList ["value", "least", "most"]) : OkC P w K mg base CX0 "is_list" 1 ["value", "least", "most"] (spD RIsList) := by
  refine ok_def F scIsList (fun ds d h => by obtain ⟨i, lo, hi, rfl, _⟩ := h; rfl) (fun f cdv A outer s H E vs ds d Q hr hv hR q => ?_)
  obtain ⟨xs, lo, hi, rfl, rfl⟩ := hR
  obtain ⟨v1, v2, v3, rfl, t1, t2, t3⟩ := tpA3 hv
  exact js_one (j_ret (jd_is (jd_and (jd_isi B.isi B.tuple bt_tuple kit_tt (jd_var 0 t1)) fun _ => jd_one (jd_chainLe (jd_var 1 t2) (jd_lenT B.len (jd_var 0 t1)) (jd_var 2 t3))) (by rw [Bool.true_and])) q)
/-! ### is_set -/
abbrev sIsSet : Stmt := topS 14
theorem scIsSet : FnScope ["web", "people", "many", "person"] ["web", "people"] (defScope sIsSet) := ⟨rfl, rfl, rfl, by decide +kernel, rfl, by decide +kernel, by decide +kernel⟩
def RIsSet : List PyData → PyData → Prop := fun ds d => ∃ (W : List (List Int)) (S : List Int), Wb W ∧ Asc W.length S ∧ ds = [dW W, dI S] ∧ d = .bool true
theorem all_map_true {l : List Int} {f : Int → Bool} (h : ∀ a ∈ l, f a = true) : (l.map f).all id = true := by
  rw [List.all_map, List.all_eq_true]
  exact h
theorem any_map_false {l : List Int} {f : Int → Bool} (h : ∀ a ∈ l, f a = false) : (l.map f).any id = false := by
  rw [List.any_map, List.any_eq_false]
  intro a ha
  rw [Function.comp, h a ha]
  simp
theorem filt_yes (l : List Int) : (l.filter fun _ => true) = l := List.filter_eq_self.mpr fun _ _ => rfl
theorem ok_is_set (B : Bt mg) (F : Df K mg "is_set" sIsSet ["web", "people"]) (O1 : OkC P w K mg base CX0 "is_list" 1 ["value", "least", "most"] (spD RIsList)) (O2 : OkC P w K mg base CX0 "is_in" 2 ["value", "least", "most"] (spD RIsIn)) :
    OkC P w K mg base CX0 "is_set" 3 ["web", "people"] (spD RIsSet) := by
  refine ok_def F scIsSet (fun ds d h => by obtain ⟨W, S, _, _, rfl, _⟩ := h; rfl) (fun f cdv A outer s H E vs ds d Q hr hv hR q => ?_)
  obtain ⟨W, S, hW, hS, rfl, rfl⟩ := hR
  obtain ⟨v1, v2, rfl, t1, t2⟩ := tpA2 hv
  have hn : W.length ≤ 7 := by have := hW.n5; omega
  have hl := asc_len hS
  have nW : (W.map dI).length = W.length := List.length_map ..
  refine js_cons (j_set (i := 2) scIsSet.nd (jd_lenT B.len (jd_var 0 t1)) fun v H1 e1 hv => ?_)
  rw [nW] at hv
  refine js_cons (j_ifno (jt_is (jt_or (jt_not (jt_val (jd_call O1 (hr.mono (by decide)) (ja_cons (jd_var 1 (t2.ex e1)) (ja_cons jd_int (ja_cons (jd_var 2 hv) ja_nil))) ⟨S.map .int, 0, W.length, rfl, rfl⟩)))
    fun _ => jt_not (jt_val (jd_all (l := S.map fun a => decide (0 ≤ a) && decide (a ≤ (W.length : Int) - 1)) rfl B.all ?_))) ?_) fun H2 e2 => ?_)
  · refine jd_is (jd_lcT (i := 3) (enc := PyData.int) (f := fun _ => true) (g := fun a => .bool (decide (0 ≤ a) && decide (a ≤ (W.length : Int) - 1))) scIsSet.nd (jd_var 1 (t2.ex e1)) ⟨fun _ => by simp [flt], asc_small hS hn, fun s0 H0 C cl fp a ha v' H' e' hv' => PTs.cq pts_nil fun σ' H1 Q q => ?_, fun s0 H0 C cl fp a ha hf v' H' e' hv' => ?_⟩) ?_
    · obtain ⟨rfl, e1, q⟩ := q
      exact q _ (Ex.refl _)
    · exact jd_call O2 (hr.mono (by decide)) (ja_cons (jd_var 3 hv') (ja_cons jd_int (ja_cons (jd_sub (jd_var 2 (hv.ex e')) jd_int) ja_nil))) ⟨a, 0, (W.length : Int) - 1, rfl, rfl⟩
    · unfold dB
      rw [filt_yes, List.map_map]
      rfl
  · rw [all_map_true fun a ha => by
      have := hS.lt a ha
      rw [decide_eq_true this.1, decide_eq_true (by omega)]
      rfl]
    rw [decide_eq_true (by rw [List.length_map]; omega), decide_eq_true (by rw [List.length_map]; omega)]
    rfl
  · refine js_one (j_ret (jd_is (jd_cmp (op_eqD hr.units) (k_eqD (shp_L S) (shp_L (sortU S))) (jd_listT B.list (jd_var 1 (t2.ex (e1.trans e2)))) (jd_srtSet (.inr rfl) (by omega) B.sorted B.set (jd_var 1 (t2.ex (e1.trans e2))))) ?_) fun v' H3 e3 hv' => q v' H3 ((e1.trans e2).trans e3) hv')
    rw [eqv_L, sortU_up hS.up, decide_eq_true rfl]
end
end TJ
set_option Elab.async false
set_option linter.all false
set_option maxRecDepth 100000
set_option maxHeartbeats 4000000
namespace TJ
open PySem PySem.Spec PyProof.Rows L2
open Evl (Ex fresh_back)
section
variable {P : Program} {w : World} {K : PySem.W.Frag} {mg : Str → Option Value} {base : Heap}
theorem pts_yes {X : Cx} {σ : L2.St} {H : Hp} : PTs X [] (tT σ H true) := PTs.cq pts_nil fun σ' H1 Q q => by
  obtain ⟨rfl, e1, q⟩ := q
  exact q _ (Ex.refl _)
theorem fr_get {W : List (List Int)} {j : Nat} {d : PyData} (h : (W.map dI)[j]? = some d) : ∃ fs, W[j]? = some fs ∧ d = dI fs := by
  rw [List.getElem?_map] at h
  cases q : W[j]? with
  | none => rw [q] at h; cases h
  | some fs =>
    rw [q] at h
    exact ⟨fs, rfl, (Option.some.inj h).symm⟩
/-! ### need_web -/
abbrev sNeedWeb : Stmt := topS 13
theorem scNeedWeb : FnScope ["web", "people", "index", "friends", "other"] ["web"] (defScope sNeedWeb) := ⟨rfl, rfl, rfl, by decide +kernel, rfl, by decide +kernel, by decide +kernel⟩
def RNeedWeb : List PyData → PyData → Prop := fun ds d => ∃ (W : List (List Int)), Wb W ∧ ds = [dW W] ∧ d = .none
theorem ok_need_web (B : Bt mg) (hM : ∃ t, mg "MOST_PEOPLE" = some (.int 7 t)) (F : Df K mg "need_web" sNeedWeb ["web"]) (O1 : OkC P w K mg base CX0 "is_list" 1 ["value", "least", "most"] (spD RIsList)) (O2 : OkC P w K mg base CX0 "is_in" 2 ["value", "least", "most"] (spD RIsIn)) :
    OkC P w K mg base CX0 "need_web" 3 ["web"] (spD RNeedWeb) := by
  refine ok_def F scNeedWeb (fun ds d h => by obtain ⟨W, _, rfl, _⟩ := h; rfl) (fun f cdv A outer s H E vs ds d Q hr hv hR q => ?_)
  obtain ⟨W, hW, rfl, rfl⟩ := hR
  obtain ⟨v1, rfl, t1⟩ := tpA1 hv
  obtain ⟨tM, hM⟩ := hM
  have hn : W.length ≤ 7 := by have := hW.n5; omega
  have n1 := hW.n1
  have nW : (W.map dI).length = W.length := List.length_map ..
  refine js_cons (j_ifno (jt_is (jt_not (jt_val (jd_call O1 (hr.mono (by decide)) (ja_cons (jd_var 0 t1) (ja_cons jd_int (ja_cons (jd_globI hM) ja_nil))) ⟨W.map dI, 1, 7, rfl, rfl⟩))) ?_) fun H1 e1 => ?_)
  · rw [nW, decide_eq_true (by omega), decide_eq_true (by omega)]
    rfl
  refine js_cons (j_set (i := 1) scNeedWeb.nd (jd_lenT B.len (jd_var 0 (t1.ex e1))) fun vn H2 e2 hvn => ?_)
  rw [nW] at hvn
  have evn := tp_int hvn
  subst evn
  have t2 : Tp H2 v1 (dW W) := t1.ex (e1.trans e2)
  -- the first loop
  refine js_cons (j_forE (i1 := 2) (i2 := 3) scNeedWeb.nd B.enum (jd_var 0 t2) (fun j σ' => ∃ o1 o2, σ' = [some v1, some (.int (W.length : Int)), o1, o2, none]) ⟨none, none, rfl⟩ (fun j d v σ' H' hj e' hv' p => ?_) (fun σ' H' e' p => ?_))
  · obtain ⟨o1, o2, rfl⟩ := p
    obtain ⟨fs, hfs, rfl⟩ := fr_get hj
    have hA := hW.asc fs (List.mem_of_getElem? hfs)
    have hjn : j < W.length := (List.getElem?_eq_some_iff.mp hfs).1
    have own := hW.own j fs hfs
    have hlen := asc_but hA ⟨by omega, by omega⟩ own
    refine js_cons (j_ifno (jt_is (jt_or (jt_not (jt_val (jd_call O1 (hr.mono (by decide)) (ja_cons (jd_var 3 hv') (ja_cons jd_int (ja_cons (jd_sub (jd_var 1 (.int _)) jd_int) ja_nil))) ⟨fs.map .int, 0, (W.length : Int) - 1, rfl, rfl⟩)))
      fun _ => jt_not (jt_val (jd_all (l := fs.map fun a => decide (0 ≤ a) && decide (a ≤ (W.length : Int) - 1)) rfl B.all ?_))) ?_) fun H3 e3 => ?_)
    · refine jd_is (jd_lcT (i := 4) (enc := PyData.int) (f := fun _ => true) (g := fun a => .bool (decide (0 ≤ a) && decide (a ≤ (W.length : Int) - 1))) scNeedWeb.nd (jd_var 3 hv') ⟨fun _ => by simp [flt], asc_small hA hn, fun s0 H0 C cl fp a ha v' H'' e'' hv'' => pts_yes, fun s0 H0 C cl fp a ha hf v' H'' e'' hv'' => ?_⟩) ?_
      · exact jd_call O2 (hr.mono (by decide)) (ja_cons (jd_var 4 hv'') (ja_cons jd_int (ja_cons (jd_sub (jd_var 1 (.int _)) jd_int) ja_nil))) ⟨a, 0, (W.length : Int) - 1, rfl, rfl⟩
      · unfold dB
        rw [filt_yes, List.map_map]
        rfl
    · rw [all_map_true fun a ha => by
        have := hA.lt a ha
        rw [decide_eq_true this.1, decide_eq_true (by omega)]
        rfl]
      rw [decide_eq_true (by rw [List.length_map]; omega), decide_eq_true (by rw [List.length_map]; omega)]
      rfl
    · refine js_one (j_ifno (jt_is (jt_or (jt_cmp (op_neD hr.units) (k_neD (shp_L fs) (shp_L (sortU fs))) (jd_listT B.list (jd_var 3 (hv'.ex e3))) (jd_srtSet (.inr rfl) (by omega) B.sorted B.set (jd_var 3 (hv'.ex e3))))
        fun _ => jt_in (jd_var 2 (.int (j : Int))) (jd_var 3 (hv'.ex e3))) ?_) fun H4 e4 => ⟨e3.trans e4, _, _, rfl⟩)
      rw [eqv_L, sortU_up hA.up, decide_eq_true rfl, decide_eq_false own]
      rfl
  · obtain ⟨o1, o2, rfl⟩ := p
    have t3 : Tp H' v1 (dW W) := t2.ex e'
    refine js_one (j_forE (i1 := 2) (i2 := 3) scNeedWeb.nd B.enum (jd_var 0 t3) (fun j σ' => ∃ o1 o2, σ' = [some v1, some (.int (W.length : Int)), o1, o2, none]) ⟨_, _, rfl⟩ (fun j d v σ' H3 hj e3 hv' p => ?_) (fun σ' H3 e3 p => q _ _ (((e1.trans e2).trans e').trans e3) .non))
    obtain ⟨o1, o2, rfl⟩ := p
    obtain ⟨fs, hfs, rfl⟩ := fr_get hj
    have hA := hW.asc fs (List.mem_of_getElem? hfs)
    refine js_one (j_ifno (jt_is (jt_val (jd_any (l := fs.map fun a => !decide ((j : Int) ∈ fr W a)) rfl B.any ?_)) ?_) fun H4 e4 => ⟨e4, _, _, rfl⟩)
    · refine jd_is (jd_lcT (i := 4) (enc := PyData.int) (f := fun _ => true) (g := fun a => .bool (!decide ((j : Int) ∈ fr W a))) scNeedWeb.nd (jd_var 3 hv') ⟨fun _ => by simp [flt], asc_small hA hn, fun s0 H0 C cl fp a ha v' H'' e'' hv'' => pts_yes, fun s0 H0 C cl fp a ha hf v' H'' e'' hv'' => ?_⟩) ?_
      · have hr2 := hA.lt a ha
        exact jd_notin (jd_var 2 (.int (j : Int))) (jd_ixT (jd_var 0 (t3.ex (e3.trans e''))) (jd_is (jd_var 4 hv'') (by rw [Int.toNat_of_nonneg hr2.1])) (get_W (hW.fr hr2.1 hr2.2)))
      · unfold dB
        rw [filt_yes, List.map_map]
        rfl
    · refine any_map_false fun a ha => ?_
      have hr2 := hA.lt a ha
      obtain ⟨gs, h1, h2⟩ := hW.sym j a.toNat fs hfs (by rw [Int.toNat_of_nonneg hr2.1]; exact ha)
      have eg : fr W a = gs := Option.some.inj ((hW.fr hr2.1 hr2.2).symm.trans h1)
      rw [eg, decide_eq_true h2]
      rfl
/-! ### need_state, need_two, need_person -/
abbrev sNeedState : Stmt := topS 15
theorem scNeedState : FnScope ["web", "standing"] ["web", "standing"] (defScope sNeedState) := ⟨rfl, rfl, rfl, by decide +kernel, rfl, by decide +kernel, by decide +kernel⟩
def RNeedState : List PyData → PyData → Prop := fun ds d => ∃ (W : List (List Int)) (S : List Int), Wb W ∧ Asc W.length S ∧ ds = [dW W, dI S] ∧ d = .none
theorem ok_need_state (F : Df K mg "need_state" sNeedState ["web", "standing"]) (O1 : OkC P w K mg base CX0 "need_web" 3 ["web"] (spD RNeedWeb)) (O2 : OkC P w K mg base CX0 "is_set" 3 ["web", "people"] (spD RIsSet)) :
    OkC P w K mg base CX0 "need_state" 4 ["web", "standing"] (spD RNeedState) := by
  refine ok_def F scNeedState (fun ds d h => by obtain ⟨W, S, _, _, rfl, _⟩ := h; rfl) (fun f cdv A outer s H E vs ds d Q hr hv hR q => ?_)
  obtain ⟨W, S, hW, hS, rfl, rfl⟩ := hR
  obtain ⟨v1, v2, rfl, t1, t2⟩ := tpA2 hv
  refine js_cons (j_expr (jd_call O1 hr (ja_cons (jd_var 0 t1) ja_nil) ⟨W, hW, rfl, rfl⟩) fun v H1 e1 hv => ?_)
  exact js_one (j_ifno (jt_is (jt_not (jt_val (jd_call O2 hr (ja_cons (jd_var 0 (t1.ex e1)) (ja_cons (jd_var 1 (t2.ex e1)) ja_nil)) ⟨W, S, hW, hS, rfl, rfl⟩))) rfl) fun H2 e2 => q _ _ (e1.trans e2) .non)
abbrev sNeedTwo : Stmt := topS 16
theorem scNeedTwo : FnScope ["web", "standing", "goal"] ["web", "standing", "goal"] (defScope sNeedTwo) := ⟨rfl, rfl, rfl, by decide +kernel, rfl, by decide +kernel, by decide +kernel⟩
def RNeedTwo : List PyData → PyData → Prop := fun ds d => ∃ (W : List (List Int)) (S G : List Int), Wb W ∧ Asc W.length S ∧ Asc W.length G ∧ ds = [dW W, dI S, dI G] ∧ d = .none
theorem ok_need_two (F : Df K mg "need_two" sNeedTwo ["web", "standing", "goal"]) (O1 : OkC P w K mg base CX0 "need_state" 4 ["web", "standing"] (spD RNeedState)) (O2 : OkC P w K mg base CX0 "is_set" 3 ["web", "people"] (spD RIsSet)) :
    OkC P w K mg base CX0 "need_two" 5 ["web", "standing", "goal"] (spD RNeedTwo) := by
  refine ok_def F scNeedTwo (fun ds d h => by obtain ⟨W, S, G, _, _, _, rfl, _⟩ := h; rfl) (fun f cdv A outer s H E vs ds d Q hr hv hR q => ?_)
  obtain ⟨W, S, G, hW, hS, hG, rfl, rfl⟩ := hR
  obtain ⟨v1, v2, v3, rfl, t1, t2, t3⟩ := tpA3 hv
  refine js_cons (j_expr (jd_call O1 hr (ja_cons (jd_var 0 t1) (ja_cons (jd_var 1 t2) ja_nil)) ⟨W, S, hW, hS, rfl, rfl⟩) fun v H1 e1 hv => ?_)
  exact js_one (j_ifno (jt_is (jt_not (jt_val (jd_call O2 (hr.mono (by decide)) (ja_cons (jd_var 0 (t1.ex e1)) (ja_cons (jd_var 2 (t3.ex e1)) ja_nil)) ⟨W, G, hW, hG, rfl, rfl⟩))) rfl) fun H2 e2 => q _ _ (e1.trans e2) .non)
abbrev sNeedPerson : Stmt := topS 17
theorem scNeedPerson : FnScope ["web", "person"] ["web", "person"] (defScope sNeedPerson) := ⟨rfl, rfl, rfl, by decide +kernel, rfl, by decide +kernel, by decide +kernel⟩
def RNeedPerson : List PyData → PyData → Prop := fun ds d => ∃ (W : List (List Int)) (p : Int), (0 ≤ p ∧ p < W.length) ∧ ds = [dW W, .int p] ∧ d = .none
theorem ok_need_person (B : Bt mg) (F : Df K mg "need_person" sNeedPerson ["web", "person"]) (O2 : OkC P w K mg base CX0 "is_in" 2 ["value", "least", "most"] (spD RIsIn)) :
    OkC P w K mg base CX0 "need_person" 3 ["web", "person"] (spD RNeedPerson) := by
  refine ok_def F scNeedPerson (fun ds d h => by obtain ⟨W, p, _, rfl, _⟩ := h; rfl) (fun f cdv A outer s H E vs ds d Q hr hv hR q => ?_)
  obtain ⟨W, p, hp, rfl, rfl⟩ := hR
  obtain ⟨v1, v2, rfl, t1, t2⟩ := tpA2 hv
  refine js_one (j_ifno (jt_is (jt_not (jt_val (jd_call O2 hr (ja_cons (jd_var 1 t2) (ja_cons jd_int (ja_cons (jd_sub (jd_lenT B.len (jd_var 0 t1)) jd_int) ja_nil))) ⟨p, 0, _, rfl, rfl⟩))) ?_) fun H2 e2 => q _ _ e2 .non)
  rw [decide_eq_true hp.1, decide_eq_true (by rw [List.length_map]; omega)]
  rfl
/-! ### need_weights -/
/-- weights for n people -/
structure Wt (n : Nat) (w : List Int) : Prop where
  len : w.length = n
  ok : ∀ x ∈ w, 0 ≤ x ∧ x ≤ 99
abbrev sNeedWeights : Stmt := topS 34
theorem scNeedWeights : FnScope ["web", "weights", "index", "weight"] ["web", "weights"] (defScope sNeedWeights) := ⟨rfl, rfl, rfl, by decide +kernel, rfl, by decide +kernel, by decide +kernel⟩
def RNeedWeights : List PyData → PyData → Prop := fun ds d => ∃ (W : List (List Int)) (ws : List Int), Wt W.length ws ∧ ds = [dW W, dI ws] ∧ d = .none
theorem ok_need_weights (B : Bt mg) (F : Df K mg "need_weights" sNeedWeights ["web", "weights"]) (O1 : OkC P w K mg base CX0 "is_list" 1 ["value", "least", "most"] (spD RIsList)) (O2 : OkC P w K mg base CX0 "is_in" 2 ["value", "least", "most"] (spD RIsIn)) :
    OkC P w K mg base CX0 "need_weights" 3 ["web", "weights"] (spD RNeedWeights) := by
  refine ok_def F scNeedWeights (fun ds d h => by obtain ⟨W, p, _, rfl, _⟩ := h; rfl) (fun f cdv A outer s H E vs ds d Q hr hv hR q => ?_)
  obtain ⟨W, ws, hw, rfl, rfl⟩ := hR
  obtain ⟨v1, v2, rfl, t1, t2⟩ := tpA2 hv
  have nW : (W.map dI).length = W.length := List.length_map ..
  refine js_cons (j_ifno (jt_is (jt_not (jt_val (jd_call O1 (hr.mono (by decide)) (ja_cons (jd_var 1 t2) (ja_cons (jd_lenT B.len (jd_var 0 t1)) (ja_cons (jd_lenT B.len (jd_var 0 t1)) ja_nil))) ⟨ws.map .int, _, _, rfl, rfl⟩))) ?_) fun H1 e1 => ?_)
  · rw [nW, List.length_map, hw.len, decide_eq_true (Int.le_refl _)]
    rfl
  refine js_one (j_forE (i1 := 2) (i2 := 3) scNeedWeights.nd B.enum (jd_var 1 (t2.ex e1)) (fun j σ' => ∃ o1 o2, σ' = [some v1, some v2, o1, o2]) ⟨none, none, rfl⟩ (fun j d v σ' H' hj e' hv' p => ?_) (fun σ' H' e' p => q _ _ (e1.trans e') .non))
  obtain ⟨o1, o2, rfl⟩ := p
  rw [List.getElem?_map] at hj
  cases hx : ws[j]? with
  | none => rw [hx] at hj; cases hj
  | some x =>
    rw [hx] at hj
    have ed : PyData.int x = d := Option.some.inj hj
    subst ed
    have hx2 := hw.ok x (List.mem_of_getElem? hx)
    refine js_one (j_ifno (jt_is (jt_not (jt_val (jd_call O2 (hr.mono (by decide)) (ja_cons (jd_var 3 hv') (ja_cons jd_int (ja_cons jd_int ja_nil))) ⟨x, 0, 99, rfl, rfl⟩))) ?_) fun H2 e2 => ⟨e2, _, _, rfl⟩)
    rw [decide_eq_true hx2.1, decide_eq_true hx2.2]
    rfl
end
end TJ
set_option Elab.async false
set_option linter.all false
set_option maxRecDepth 100000
set_option maxHeartbeats 4000000
namespace TJ
open PySem PySem.Spec PyProof.Rows L2
open Evl (Ex fresh_back)
section
variable {P : Program} {w : World} {K : PySem.W.Frag} {mg : Str → Option Value} {base : Heap}
theorem dB_map {α : Type} (l : List α) (f : α → Bool) : PyData.list (((l.filter fun _ => true)).map fun a => PyData.bool (f a)) = dB (l.map f) := by
  unfold dB
  rw [List.filter_eq_self.mpr fun _ _ => rfl, List.map_map]
  rfl
/-! ### taller_in -/
abbrev sTaller : Stmt := topS 18
theorem scTaller : FnScope ["web", "person", "other"] ["web", "person"] (defScope sTaller) := ⟨rfl, rfl, rfl, by decide +kernel, rfl, by decide +kernel, by decide +kernel⟩
def RTaller : List PyData → PyData → Prop := fun ds d => ∃ (W : List (List Int)) (p : Int), Wb W ∧ (0 ≤ p ∧ p < W.length) ∧ ds = [dW W, .int p] ∧ d = dI (tallM W p)
theorem ok_taller (B : Bt mg) (F : Df K mg "taller_in" sTaller ["web", "person"]) : OkC P w K mg base CX0 "taller_in" 1 ["web", "person"] (spD RTaller) := by
  refine ok_def F scTaller (fun ds d h => by obtain ⟨W, p, _, _, rfl, _⟩ := h; rfl) (fun f cdv A outer s H E vs ds d Q hr hv hR q => ?_)
  obtain ⟨W, p, hW, hp, rfl, rfl⟩ := hR
  obtain ⟨v1, v2, rfl, t1, t2⟩ := tpA2 hv
  have hn : W.length ≤ 7 := by have := hW.n5; omega
  refine js_one (j_ret (jd_tupleL B.tuple (jd_lcT (i := 2) (l := fr W p) (enc := PyData.int) (f := fun o => decide (p < o)) (g := PyData.int) scTaller.nd (jd_ixT (jd_var 0 t1) (jd_is (jd_var 1 t2) (by rw [Int.toNat_of_nonneg hp.1])) (get_W (hW.fr hp.1 hp.2)))
    ⟨fun _ => flt_int _, asc_small (hW.frAsc hp.1 hp.2) hn, fun s0 H0 C cl fp a ha v H' e' hv => pts_one (jt_gt (jd_var 2 hv) (jd_var 1 (t2.ex e'))), fun s0 H0 C cl fp a ha hf v H' e' hv => jd_var 2 hv⟩)) q)
/-! ### apart_in -/
abbrev sApart : Stmt := topS 19
theorem scApart : FnScope ["web", "people", "one", "other"] ["web", "people"] (defScope sApart) := ⟨rfl, rfl, rfl, by decide +kernel, rfl, by decide +kernel, by decide +kernel⟩
def RApart : List PyData → PyData → Prop := fun ds d => ∃ (W : List (List Int)) (S : List Int), Wb W ∧ Asc W.length S ∧ ds = [dW W, dI S] ∧ d = .bool (apartM W S)
theorem ok_apart (B : Bt mg) (F : Df K mg "apart_in" sApart ["web", "people"]) : OkC P w K mg base CX0 "apart_in" 1 ["web", "people"] (spD RApart) := by
  refine ok_def F scApart (fun ds d h => by obtain ⟨W, p, _, _, rfl, _⟩ := h; rfl) (fun f cdv A outer s H E vs ds d Q hr hv hR q => ?_)
  obtain ⟨W, S, hW, hS, rfl, rfl⟩ := hR
  obtain ⟨v1, v2, rfl, t1, t2⟩ := tpA2 hv
  have hn : W.length ≤ 7 := by have := hW.n5; omega
  have hl := asc_len hS
  refine js_one (j_ret (jd_not (jd_any rfl B.any (jd_lc2 (i := 2) (j := 3) (l1 := S) (l2 := S) (g := fun one other => decide (other ∈ fr W one)) scApart.nd (by decide) (jd_var 1 t2) (by omega) (by omega)
    (fun s0 H0 C cl fp a ha H' e' => jd_var 1 (t2.ex e')) (fun s0 H0 C cl fp a b ha hb H' e' => ?_)))) q)
  have hp := hS.lt a ha
  exact jd_in (jd_var 3 (.int b)) (jd_ixT (jd_var 0 (t1.ex e')) (jd_is (jd_var 2 (.int a)) (by rw [Int.toNat_of_nonneg hp.1])) (get_W (hW.fr hp.1 hp.2)))
/-! ### choices -/
abbrev sChoices : Stmt := topS 20
theorem scChoices : FnScope ["people", "found", "person", "row"] ["people"] (defScope sChoices) := ⟨rfl, rfl, rfl, by decide +kernel, rfl, by decide +kernel, by decide +kernel⟩
def RChoices : List PyData → PyData → Prop := fun ds d => ∃ (S : List Int), Asc 7 S ∧ ds = [dI S] ∧ d = dR (choicesM S)
theorem ok_choices (F : Df K mg "choices" sChoices ["people"]) : OkC P w K mg base CX0 "choices" 1 ["people"] (spD RChoices) := by
  refine ok_def F scChoices (fun ds d h => by obtain ⟨S, _, rfl, _⟩ := h; rfl) (fun f cdv A outer s H E vs ds d Q hr hv hR q => ?_)
  obtain ⟨S, hS, rfl, rfl⟩ := hR
  obtain ⟨v1, rfl, t1⟩ := tpA1 hv
  have hlS := asc_len hS
  refine js_cons (j_setN (i := 1) (ds := [dI []]) scChoices.nd (jn_lst (ja_cons (jd_tup (ds := []) ja_nil) ja_nil)) fun l H1 hl e1 tl => ?_)
  refine js_cons (j_forT (i := 2) (ds := S.map .int) scChoices.nd (jd_var 0 (t1.ex e1)) (fun v j σ' H' => Ex H H' ∧ Tp H' v (dI S) ∧ ∃ o, σ' = [some v1, some (.ref l), o, none] ∧ Tp H' (.ref l) (dR (choicesM (S.take j))))
    (fun v H2 e2 hv => ⟨e1.trans e2, hv, none, rfl, tl.ex e2⟩) (fun v j σ' H' p => p.2.1) (fun v0 j d v σ' H' hj hv p => ?_) (fun v σ' H' p => ?_))
  · obtain ⟨p1, p2, o, rfl, p3⟩ := p
    rw [List.getElem?_map] at hj
    cases hx : S[j]? with
    | none => rw [hx] at hj; cases hj
    | some x =>
      rw [hx] at hj
      have ed : PyData.int x = d := Option.some.inj hj
      subst ed
      have hT : Asc 7 (S.take j) := asc_sub hS (List.take_sublist j S)
      have h128 := choices_small hT (Nat.le_refl _)
      have key : ∀ r ∈ choicesM (S.take j), r.length ≤ 7 := fun r hr => asc_len (asc_sub hT ((mem_choices _ r).mp hr))
      refine js_one (j_extend (i := 1) (es' := ((choicesM (S.take j)).filter fun _ => true).map fun r => dI (r ++ [x])) rfl p3 (jd_lcL (i := 3) (l := choicesM (S.take j)) (enc := dI) (f := fun _ => true) (g := fun r => dI (r ++ [x])) scChoices.nd (jd_var 1 p3)
        ⟨fun _ => flt_I _, by omega, fun s0 H0 C cl fp a ha v' H'' e' hv' => pts_yes, fun s0 H0 C cl fp a ha hf v' H'' e' hv' => ?_⟩) (fltA_map _ (fun _ => flt_I _) _) (flt_A_I _) ?_ fun H2 km tx tl2 => ⟨km.ex hl p1, p2.tx tx (flt_I S), _, rfl, ?_⟩)
      · have hla := key a ha
        exact jd_is (jd_tup (ja_star (jd_var 3 hv') (ja_cons (jd_var 2 (hv.ex e')) ja_nil)) (by rw [List.length_append, List.length_map]; simp; omega)) (by unfold dI; rw [List.map_append]; rfl)
      · rw [List.length_map, List.length_map, List.filter_eq_self.mpr fun _ _ => rfl]
        omega
      · rw [choices_take hx]
        have e : dR (choicesM (S.take j) ++ (choicesM (S.take j)).map (· ++ [x])) = .list ((choicesM (S.take j)).map dI ++ ((choicesM (S.take j)).filter fun _ => true).map fun r => dI (r ++ [x])) := by
          unfold dR
          rw [List.map_append, List.map_map, List.filter_eq_self.mpr fun _ _ => rfl]
          rfl
        rw [e]
        exact tl2
  · obtain ⟨p1, p2, o, rfl, p3⟩ := p
    rw [List.length_map, List.take_length] at p3
    exact js_one (j_ret (jd_var 1 p3) fun v H2 e2 hv => q v H2 (p1.trans e2) hv)
/-! ### movers_in -/
/-- [p .. any([other < p and other in G for other in web[p]])], the test of one -/
abbrev sMovers : Stmt := topS 23
theorem scMovers : FnScope ["web", "standing", "person", "other"] ["web", "standing"] (defScope sMovers) := ⟨rfl, rfl, rfl, by decide +kernel, rfl, by decide +kernel, by decide +kernel⟩
def RMovers : List PyData → PyData → Prop := fun ds d => ∃ (W : List (List Int)) (S : List Int), Wb W ∧ Asc W.length S ∧ ds = [dW W, dI S] ∧ d = dL (moversM W S)
theorem ok_movers (B : Bt mg) (F : Df K mg "movers_in" sMovers ["web", "standing"]) : OkC P w K mg base CX0 "movers_in" 1 ["web", "standing"] (spD RMovers) := by
  refine ok_def F scMovers (fun ds d h => by obtain ⟨W, p, _, _, rfl, _⟩ := h; rfl) (fun f cdv A outer s H E vs ds d Q hr hv hR q => ?_)
  obtain ⟨W, S, hW, hS, rfl, rfl⟩ := hR
  obtain ⟨v1, v2, rfl, t1, t2⟩ := tpA2 hv
  have hn : W.length ≤ 7 := by have := hW.n5; omega
  refine js_one (j_ret (d := dL (moversM W S)) (jd_lcT (i := 2) (l := S) (enc := PyData.int) (f := fun p => lowF W p S) (g := PyData.int) scMovers.nd (jd_var 1 t2) ⟨fun _ => flt_int _, asc_small hS hn, fun s0 H0 C cl fp a ha v H' e' hv => pts_one (jt_is (jt_val (jd_any (l := (fr W a).map fun o => decide (o < a) && decide (o ∈ S)) rfl B.any ?_)) (show _ = lowF W a S by unfold lowF; rw [List.any_map]; rfl)), fun s0 H0 C cl fp a ha hf v H' e' hv => jd_var 2 hv⟩) q)
  · have hp := hS.lt a ha
    refine jd_is (jd_lcT (i := 3) (l := fr W a) (enc := PyData.int) (f := fun _ => true) (g := fun o => .bool (decide (o < a) && decide (o ∈ S))) scMovers.nd (jd_ixT (jd_var 0 (t1.ex e')) (jd_is (jd_var 2 hv) (by rw [Int.toNat_of_nonneg hp.1])) (get_W (hW.fr hp.1 hp.2)))
      ⟨fun _ => flt_bool _, asc_small (hW.frAsc hp.1 hp.2) hn, fun s0 H0 C cl fp b hb v' H'' e'' hv' => pts_yes, fun s0 H0 C cl fp b hb hf v' H'' e'' hv' => ?_⟩) (dB_map _ _)
    exact jd_and (jd_lt (jd_var 3 hv') (jd_var 2 (hv.ex e''))) fun _ => jd_one (jd_in (jd_var 3 hv') (jd_var 1 (t2.ex (e'.trans e''))))
/-! ### may_call -/
abbrev sMay : Stmt := topS 25
theorem scMay : FnScope ["web", "standing", "goal", "found", "person", "other"] ["web", "standing", "goal"] (defScope sMay) := ⟨rfl, rfl, rfl, by decide +kernel, rfl, by decide +kernel, by decide +kernel⟩
def RMay : List PyData → PyData → Prop := fun ds d => ∃ (W : List (List Int)) (S G : List Int), Wb W ∧ Asc W.length S ∧ Asc W.length G ∧ ds = [dW W, dI S, dI G] ∧ d = dI (mayM W S G)
theorem ok_may (B : Bt mg) (F : Df K mg "may_call" sMay ["web", "standing", "goal"]) : OkC P w K mg base CX0 "may_call" 1 ["web", "standing", "goal"] (spD RMay) := by
  refine ok_def F scMay (fun ds d h => by obtain ⟨W, S, G, _, _, _, rfl, _⟩ := h; rfl) (fun f cdv A outer s H E vs ds d Q hr hv hR q => ?_)
  obtain ⟨W, S, G, hW, hS, hG, rfl, rfl⟩ := hR
  obtain ⟨v1, v2, v3, rfl, t1, t2, t3⟩ := tpA3 hv
  have hn : W.length ≤ 7 := by have := hW.n5; omega
  have hlS := asc_len hS
  refine js_cons (j_setN (i := 3) (ds := []) scMay.nd (jn_lst ja_nil) fun l H1 hl e1 tl => ?_)
  refine js_cons (j_forT (i := 4) (ds := S.map .int) scMay.nd (jd_var 1 (t2.ex e1)) (fun v j σ' H' => Ex H H' ∧ Tp H' v (dI S) ∧ ∃ o, σ' = [some v1, some v2, some v3, some (.ref l), o, none] ∧ Tp H' (.ref l) (dL (mayM W (S.take j) G)))
    (fun v H2 e2 hv => ⟨e1.trans e2, hv, none, rfl, tl.ex e2⟩) (fun v j σ' H' p => p.2.1) (fun v0 j d v σ' H' hj hv p => ?_) (fun v σ' H' p => ?_))
  · obtain ⟨p1, p2, o, rfl, p3⟩ := p
    rw [List.getElem?_map] at hj
    cases hx : S[j]? with
    | none => rw [hx] at hj; cases hj
    | some x =>
      rw [hx] at hj
      have ed : PyData.int x = d := Option.some.inj hj
      subst ed
      have hp := hS.lt x (List.mem_of_getElem? hx)
      have ft : mayM W (S.take (j + 1)) G = mayM W (S.take j) G ++ (if (!lowF W x G) = true then [x] else []) := filter_take hx
      have hlen : (mayM W (S.take j) G).length ≤ 7 := by
        have h1 := List.length_filter_le (fun p => !lowF W p G) (S.take j)
        have h2 : (S.take j).length ≤ S.length := by rw [List.length_take]; omega
        unfold mayM
        omega
      refine js_one (j_if (jt_is (jt_not (jt_val (jd_any (l := (fr W x).map fun o => decide (o < x) && decide (o ∈ G)) rfl B.any ?_))) (show (!_) = !lowF W x G by unfold lowF; rw [List.any_map]; rfl)) (fun hb H2 e2 => ?_) (fun hb H2 e2 => ?_))
      · refine jd_is (jd_lcT (i := 5) (l := fr W x) (enc := PyData.int) (f := fun _ => true) (g := fun o => .bool (decide (o < x) && decide (o ∈ G))) scMay.nd (jd_ixT (jd_var 0 (t1.ex p1)) (jd_is (jd_var 4 hv) (by rw [Int.toNat_of_nonneg hp.1])) (get_W (hW.fr hp.1 hp.2)))
          ⟨fun _ => flt_bool _, asc_small (hW.frAsc hp.1 hp.2) hn, fun s0 H0 C cl fp b hb v' H'' e'' hv' => pts_yes, fun s0 H0 C cl fp b hb hf v' H'' e'' hv' => ?_⟩) (dB_map _ _)
        exact jd_and (jd_lt (jd_var 5 hv') (jd_var 4 (hv.ex e''))) fun _ => jd_one (jd_in (jd_var 5 hv') (jd_var 2 (t3.ex (p1.trans e''))))
      · refine js_one (j_append (i := 3) (ds := (mayM W (S.take j) G).map .int) rfl (p3.ex e2) (jd_var 4 (hv.ex e2)) (flt_int _) (flt_A_int _) (by rw [List.length_map]; omega) fun H3 km tx tl2 => ⟨km.ex hl (p1.trans e2), p2.tx ((Tx.of e2).trans tx) (flt_I S), _, rfl, ?_⟩)
        rw [ft, if_pos hb]
        unfold dL
        rw [List.map_append]
        exact tl2
      · refine js_nil ⟨p1.trans e2, p2.ex e2, _, rfl, ?_⟩
        rw [ft, hb, if_neg Bool.false_ne_true, List.append_nil]
        exact p3.ex e2
  · obtain ⟨p1, p2, o, rfl, p3⟩ := p
    rw [List.length_map, List.take_length] at p3
    exact js_one (j_ret (jd_tupleL B.tuple (jd_var 3 p3)) fun v H2 e2 hv => q v H2 (p1.trans e2) hv)
end
end TJ
set_option Elab.async false
set_option linter.all false
set_option maxRecDepth 100000
set_option maxHeartbeats 4000000
namespace TJ
open PySem PySem.Spec PyProof.Rows L2
open Evl (Ex fresh_back)
section
variable {P : Program} {w : World} {K : PySem.W.Frag} {mg : Str → Option Value} {base : Heap}
theorem dL_filt (l : List Int) (f : Int → Bool) : PyData.list ((l.filter f).map PyData.int) = dL (l.filter f) := rfl
/-! ### fits -/
abbrev sFits : Stmt := topS 26
theorem scFits : FnScope ["web", "standing", "goal", "free", "gone", "person", "other"] ["web", "standing", "goal"] (defScope sFits) := ⟨rfl, rfl, rfl, by decide +kernel, rfl, by decide +kernel, by decide +kernel⟩
def RFits : List PyData → PyData → Prop := fun ds d => ∃ (W : List (List Int)) (S G : List Int), Wb W ∧ Asc W.length S ∧ Asc W.length G ∧ ds = [dW W, dI S, dI G] ∧ d = .bool (fitsM W S G)
theorem ok_fits (B : Bt mg) (F : Df K mg "fits" sFits ["web", "standing", "goal"]) (O1 : OkC P w K mg base CX0 "may_call" 1 ["web", "standing", "goal"] (spD RMay)) (O2 : OkC P w K mg base CX0 "taller_in" 1 ["web", "person"] (spD RTaller)) :
    OkC P w K mg base CX0 "fits" 2 ["web", "standing", "goal"] (spD RFits) := by
  refine ok_def F scFits (fun ds d h => by obtain ⟨W, S, G, _, _, _, rfl, _⟩ := h; rfl) (fun f cdv A outer s H E vs ds d Q hr hv hR q => ?_)
  obtain ⟨W, S, G, hW, hS, hG, rfl, rfl⟩ := hR
  obtain ⟨v1, v2, v3, rfl, t1, t2, t3⟩ := tpA3 hv
  have hn : W.length ≤ 7 := by have := hW.n5; omega
  refine js_cons (j_if (jt_is (jt_not (jt_val (jd_all (l := G.map fun p => decide (p ∈ S)) rfl B.all (jd_is (jd_lcT (i := 5) (l := G) (enc := PyData.int) (f := fun _ => true) (g := fun p => .bool (decide (p ∈ S))) scFits.nd (jd_var 2 t3)
    ⟨fun _ => flt_bool _, asc_small hG hn, fun s0 H0 C cl fp a ha v H' e' hv => pts_yes, fun s0 H0 C cl fp a ha hf v H' e' hv => jd_in (jd_var 5 hv) (jd_var 1 (t2.ex e'))⟩) (dB_map _ _))))) (show _ = !(G.all fun p => decide (p ∈ S)) by rw [List.all_map]; rfl)) (fun hb H1 e1 => ?_) (fun hb H1 e1 => ?_))
  · refine js_one (j_ret jd_bl fun v H2 e2 hv => q v H2 (e1.trans e2) ?_)
    have e : fitsM W S G = false := by
      unfold fitsM
      rw [show (G.all fun p => decide (p ∈ S)) = false by simpa using hb]
      rfl
    rw [e]
    exact hv
  have hb : (G.all fun p => decide (p ∈ S)) = true := by simpa using hb
  refine js_nil (js_cons (j_set (i := 3) (d := dI (mayM W S G)) scFits.nd (jd_call O1 (hr.mono (by decide)) (ja_cons (jd_var 0 (t1.ex e1)) (ja_cons (jd_var 1 (t2.ex e1)) (ja_cons (jd_var 2 (t3.ex e1)) ja_nil))) ⟨W, S, G, hW, hS, hG, rfl, rfl⟩) fun vF H2 e2 tF => ?_))
  refine js_cons (j_setLcT (i := 5) (iy := 4) (l := S) (enc := PyData.int) (f := fun p => !decide (p ∈ G)) (g := PyData.int) scFits.nd (jd_var 1 (t2.ex (e1.trans e2)))
    ⟨fun _ => flt_int _, asc_small hS hn, fun s0 H0 C cl fp a ha v H' e' hv => pts_one (jt_notin (jd_var 5 hv) (jd_var 2 (t3.ex ((e1.trans e2).trans e')))), fun s0 H0 C cl fp a ha hf v H' e' hv => jd_var 5 hv⟩ fun vG H3 e3 tG => ?_)
  have ag : Asc W.length (S.filter fun p => !decide (p ∈ G)) := asc_filter _ hS
  have E3 := (e1.trans e2).trans e3
  refine js_one (j_ret (d := .bool (fitsM W S G)) (jd_is (jd_all (l := (S.filter fun p => !decide (p ∈ G)).map fun p => (tallM W p).any fun o => decide (o ∈ mayM W S G)) rfl B.all (jd_is (jd_lcL (i := 5) (l := S.filter fun p => !decide (p ∈ G)) (enc := PyData.int) (f := fun _ => true) (g := fun p => .bool ((tallM W p).any fun o => decide (o ∈ mayM W S G))) scFits.nd (jd_var 4 tG)
    ⟨fun _ => flt_bool _, asc_small ag hn, fun s0 H0 C cl fp a ha v H' e' hv => pts_yes, fun s0 H0 C cl fp a ha hf v H' e' hv => ?_⟩) (dB_map _ _))) ?_) fun v H4 e4 hv => q v H4 (E3.trans e4) hv)
  · have hp := ag.lt a ha
    have at_ : Asc W.length (tallM W a) := asc_filter _ (hW.frAsc hp.1 hp.2)
    refine jd_is (jd_any (l := (tallM W a).map fun o => decide (o ∈ mayM W S G)) rfl B.any (jd_is (jd_lcT (i := 6) (l := tallM W a) (enc := PyData.int) (f := fun _ => true) (g := fun o => .bool (decide (o ∈ mayM W S G))) scFits.nd (jd_call O2 (hr.mono (by decide)) (ja_cons (jd_var 0 (t1.ex (E3.trans e'))) (ja_cons (jd_var 5 hv) ja_nil)) ⟨W, a, hW, hp, rfl, rfl⟩)
      ⟨fun _ => flt_bool _, asc_small at_ hn, fun s0 H0 C cl fp b hb v' H'' e'' hv' => pts_yes, fun s0 H0 C cl fp b hb hf v' H'' e'' hv' => jd_in (jd_var 6 hv') (jd_var 3 (tF.ex (e3.trans (e'.trans e''))))⟩) (dB_map _ _))) (by rw [List.any_map]; rfl)
  · rw [List.all_map]
    unfold fitsM
    rw [hb]
    rfl
/-! ### leads -/
abbrev sLeads : Stmt := topS 28
theorem scLeads : FnScope ["web", "standing", "goal", "people", "here", "person"] ["web", "standing", "goal", "people"] (defScope sLeads) := ⟨rfl, rfl, rfl, by decide +kernel, rfl, by decide +kernel, by decide +kernel⟩
def RLeads : List PyData → PyData → Prop := fun ds d => ∃ (W : List (List Int)) (S G L : List Int), Wb W ∧ Asc W.length S ∧ Asc W.length L ∧ ds = [dW W, dI S, dI G, dI L] ∧ d = .bool (leadsM W S G L)
theorem go_take {W : List (List Int)} {S L : List Int} {j : Nat} {p : Int} (h : L[j]? = some p) : goM W S (L.take (j + 1)) = callM W (goM W S (L.take j)) p := by
  unfold goM
  have e : L.take (j + 1) = L.take j ++ [p] := by rw [List.take_add_one, h]; rfl
  rw [e, List.foldl_append]
  rfl
theorem asc_go {n : Nat} {W : List (List Int)} : ∀ {L S : List Int}, Asc n S → Asc n (goM W S L)
  | [], _, h => h
  | _ :: L, _, h => asc_go (L := L) (asc_call h)
theorem ok_leads (F : Df K mg "leads" sLeads ["web", "standing", "goal", "people"]) (O1 : OkC P w K mg base CX0 "call_in" 1 ["web", "standing", "person"] (spD RCallIn)) :
    OkC P w K mg base CX0 "leads" 2 ["web", "standing", "goal", "people"] (spD RLeads) := by
  refine ok_def F scLeads (fun ds d h => by obtain ⟨W, S, G, L, _, _, _, rfl, _⟩ := h; rfl) (fun f cdv A outer s H E vs ds d Q hr hv hR q => ?_)
  obtain ⟨W, S, G, L, hW, hS, hL, rfl, rfl⟩ := hR
  obtain ⟨v1, v2, v3, v4, rfl, t1, t2, t3, t4⟩ := tpA4 hv
  refine js_cons (j_set (i := 4) scLeads.nd (jd_var 1 t2) fun vh H1 e1 th => ?_)
  refine js_cons (j_forT (i := 5) (ds := L.map .int) scLeads.nd (jd_var 3 (t4.ex e1)) (fun v j σ' H' => Ex H H' ∧ Tp H' v (dI L) ∧ ∃ h o, σ' = [some v1, some v2, some v3, some v4, some h, o] ∧ Tp H' h (dI (goM W S (L.take j))))
    (fun v H2 e2 hv => ⟨e1.trans e2, hv, vh, none, rfl, th.ex e2⟩) (fun v j σ' H' p => p.2.1) (fun v0 j d v σ' H' hj hv p => ?_) (fun v σ' H' p => ?_))
  · obtain ⟨p1, p2, h, o, rfl, p3⟩ := p
    rw [List.getElem?_map] at hj
    cases hx : L[j]? with
    | none => rw [hx] at hj; cases hj
    | some x =>
      rw [hx] at hj
      have ed : PyData.int x = d := Option.some.inj hj
      subst ed
      have hp := hL.lt x (List.mem_of_getElem? hx)
      refine js_one (j_set (i := 4) (d := dI (goM W S (L.take (j + 1)))) scLeads.nd (jd_call O1 (hr.mono (by decide)) (ja_cons (jd_var 0 (t1.ex p1)) (ja_cons (jd_var 4 p3) (ja_cons (jd_var 5 hv) ja_nil))) ⟨W, _, x, hW, asc_go hS, hp, rfl, by rw [go_take hx]⟩) fun vh' H2 e2 th' => ⟨p1.trans e2, p2.ex e2, vh', _, rfl, th'⟩)
  · obtain ⟨p1, p2, h, o, rfl, p3⟩ := p
    rw [List.length_map, List.take_length] at p3
    exact js_one (j_ret (jd_is (jd_cmp (op_eqD hr.units) (k_eqD (shp_I _) (shp_I _)) (jd_var 4 p3) (jd_var 2 (t3.ex p1))) (by rw [eqv_I]; rfl)) fun v H2 e2 hv => q v H2 (p1.trans e2) hv)
/-! ### telling_in -/
abbrev sTell : Stmt := topS 29
theorem scTell : FnScope ["web", "standing", "goal", "row"] ["web", "standing", "goal"] (defScope sTell) := ⟨rfl, rfl, rfl, by decide +kernel, rfl, by decide +kernel, by decide +kernel⟩
def RTell : List PyData → PyData → Prop := fun ds d => ∃ (W : List (List Int)) (S G : List Int), Wb W ∧ Asc W.length S ∧ Asc W.length G ∧ ds = [dW W, dI S, dI G] ∧ d = dR (tellM W S G)
theorem asc_7 {n : Nat} {l : List Int} (h : Asc n l) (hn : n ≤ 7) : Asc 7 l := ⟨h.up, fun x hx => by have := h.lt x hx; omega⟩
theorem ok_tell (B : Bt mg) (F : Df K mg "telling_in" sTell ["web", "standing", "goal"]) (O1 : OkC P w K mg base CX0 "may_call" 1 ["web", "standing", "goal"] (spD RMay)) (O2 : OkC P w K mg base CX0 "choices" 1 ["people"] (spD RChoices)) (O3 : OkC P w K mg base CX0 "leads" 2 ["web", "standing", "goal", "people"] (spD RLeads)) :
    OkC P w K mg base CX0 "telling_in" 3 ["web", "standing", "goal"] (spD RTell) := by
  refine ok_def F scTell (fun ds d h => by obtain ⟨W, S, G, _, _, _, rfl, _⟩ := h; rfl) (fun f cdv A outer s H E vs ds d Q hr hv hR q => ?_)
  obtain ⟨W, S, G, hW, hS, hG, rfl, rfl⟩ := hR
  obtain ⟨v1, v2, v3, rfl, t1, t2, t3⟩ := tpA3 hv
  have hn : W.length ≤ 7 := by have := hW.n5; omega
  have am : Asc W.length (mayM W S G) := asc_filter _ hS
  have h128 := choices_small am hn
  refine js_one (j_ret (d := dR (tellM W S G)) (jd_srtR (R := (choicesM (mayM W S G)).filter (leadsM W S G)) B.sorted (jd_lcL (i := 3) (l := choicesM (mayM W S G)) (enc := dI) (f := leadsM W S G) (g := dI) scTell.nd
    (jd_call O2 (hr.mono (by decide)) (ja_cons (jd_call O1 (hr.mono (by decide)) (ja_cons (jd_var 0 t1) (ja_cons (jd_var 1 t2) (ja_cons (jd_var 2 t3) ja_nil))) ⟨W, S, G, hW, hS, hG, rfl, rfl⟩) ja_nil) ⟨_, asc_7 am hn, rfl, rfl⟩)
    ⟨fun _ => flt_I _, by omega, fun s0 H0 C cl fp a ha v H' e' hv => pts_one (jt_val (jd_call O3 (hr.mono (by decide)) (ja_cons (jd_var 0 (t1.ex e')) (ja_cons (jd_var 1 (t2.ex e')) (ja_cons (jd_var 2 (t3.ex e')) (ja_cons (jd_var 3 hv) ja_nil)))) ⟨W, S, G, a, hW, hS, asc_sub am ((mem_choices _ a).mp ha), rfl, rfl⟩)),
      fun s0 H0 C cl fp a ha hf v H' e' hv => jd_var 3 hv⟩) (by have := List.length_filter_le (leadsM W S G) (choicesM (mayM W S G)); omega) (srt_choices _ _) hr.units) q)
/-! ### ends_in -/
abbrev sEnds : Stmt := topS 32
theorem scEnds : FnScope ["web", "standing", "row"] ["web", "standing"] (defScope sEnds) := ⟨rfl, rfl, rfl, by decide +kernel, rfl, by decide +kernel, by decide +kernel⟩
def REnds : List PyData → PyData → Prop := fun ds d => ∃ (W : List (List Int)) (S : List Int), Wb W ∧ Asc W.length S ∧ ds = [dW W, dI S] ∧ d = dR (endsM W S)
theorem ok_ends (B : Bt mg) (F : Df K mg "ends_in" sEnds ["web", "standing"]) (O1 : OkC P w K mg base CX0 "apart_in" 1 ["web", "people"] (spD RApart)) (O2 : OkC P w K mg base CX0 "choices" 1 ["people"] (spD RChoices)) (O3 : OkC P w K mg base CX0 "fits" 2 ["web", "standing", "goal"] (spD RFits)) :
    OkC P w K mg base CX0 "ends_in" 3 ["web", "standing"] (spD REnds) := by
  refine ok_def F scEnds (fun ds d h => by obtain ⟨W, S, _, _, rfl, _⟩ := h; rfl) (fun f cdv A outer s H E vs ds d Q hr hv hR q => ?_)
  obtain ⟨W, S, hW, hS, rfl, rfl⟩ := hR
  obtain ⟨v1, v2, rfl, t1, t2⟩ := tpA2 hv
  have hn : W.length ≤ 7 := by have := hW.n5; omega
  have h128 := choices_small hS hn
  refine js_one (j_ret (d := dR (endsM W S)) (jd_srtR (R := (choicesM S).filter fun r => apartM W r && fitsM W S r) B.sorted (jd_lcL (i := 2) (l := choicesM S) (enc := dI) (f := fun r => apartM W r && fitsM W S r) (g := dI) scEnds.nd
    (jd_call O2 (hr.mono (by decide)) (ja_cons (jd_var 1 t2) ja_nil) ⟨_, asc_7 hS hn, rfl, rfl⟩)
    ⟨fun _ => flt_I _, by omega, fun s0 H0 C cl fp a ha v H' e' hv => ?_,
      fun s0 H0 C cl fp a ha hf v H' e' hv => jd_var 2 hv⟩) (by have := List.length_filter_le (fun r => apartM W r && fitsM W S r) (choicesM S); omega) (srt_choices _ _) hr.units) q)
  have as := asc_sub hS ((mem_choices _ a).mp ha)
  exact pts_one (jt_and (jt_val (jd_call O1 (hr.mono (by decide)) (ja_cons (jd_var 0 (t1.ex e')) (ja_cons (jd_var 2 hv) ja_nil)) ⟨W, a, hW, as, rfl, rfl⟩)) fun _ => jt_val (jd_call O3 (hr.mono (by decide)) (ja_cons (jd_var 0 (t1.ex e')) (ja_cons (jd_var 1 (t2.ex e')) (ja_cons (jd_var 2 hv) ja_nil))) ⟨W, S, a, hW, hS, as, rfl, rfl⟩))
end
end TJ
set_option Elab.async false
set_option linter.all false
set_option maxRecDepth 100000
set_option maxHeartbeats 4000000
namespace TJ
open PySem PySem.Spec PyProof.Rows L2
open Evl (Ex fresh_back)
/-! ### weights -/
def wt (ws : List Int) (p : Int) : Int := ws.getD p.toNat 0
def sumW (ws S : List Int) : Int := (S.map (wt ws)).sum
/-- the least of couples -/
def minL : List (Int × List Int) → Int × List Int
  | [] => (0, [])
  | p :: R => minP p R
section
variable {X : Cx} {e a b c : Expr} {es : List Expr} {σ : L2.St} {H : Hp} {pos p p2 : Pos} {x : Str} {D : Ends}
theorem jd_wt {ws : List Int} {q : Int} {n : Nat} (hw : Wt n ws) (hp : 0 ≤ q ∧ q < n) (ha : JD X a σ H (dI ws)) (hb : JD X b σ H (.int q)) (hs : PlainIx b := by exact fun _ _ => rfl) : JD X (.Subscript a b pos) σ H (.int (wt ws q)) := by
  refine jd_ixT ha (jd_is hb (by rw [Int.toNat_of_nonneg hp.1])) ?_ hs
  have h : q.toNat < ws.length := by rw [hw.len]; omega
  rw [List.getElem?_map, List.getElem?_eq_getElem h]
  unfold wt
  rw [List.getD_eq_getElem?_getD, List.getElem?_eq_getElem h]
  rfl
theorem sum_filt (ws S : List Int) : PyData.list ((S.filter fun _ => true).map fun q => .int (wt ws q)) = dL (S.map (wt ws)) := by
  unfold dL
  rw [List.filter_eq_self.mpr fun _ _ => rfl, List.map_map]
  rfl
theorem jd_sumW {ws S : List Int} (hc : X.calm = true) (hm : X.mg "sum" = none) (ha : JD X a σ H (.list ((S.filter fun _ => true).map fun q => .int (wt ws q)))) (hg : Gl X "sum" := by rfl) (he : starEach [a] X.env = (false, eval a X.env) :: starEach [] X.env := by rfl) :
    JD X (.Call (.Name "sum" p) [a] [] p2) σ H (.int (sumW ws S)) := jd_sum (l := S.map (wt ws)) hc hm (jd_is ha (sum_filt ws S)) hg he
theorem jd_minL {R : List (Int × List Int)} (hR : R ≠ []) (hc : X.calm = true) (hu : X.A.units + 64 < cLine) (hm : X.mg "min" = none) (ha : JD X a σ H (dPs R)) (hg : Gl X "min" := by rfl) (he : starEach [a] X.env = (false, eval a X.env) :: starEach [] X.env := by rfl) :
    JD X (.Call (.Name "min" p) [a] [] p2) σ H (dP (minL R)) := by
  cases R with
  | nil => exact absurd rfl hR
  | cons z R => exact jd_minPs hc hu hm ha hg he
theorem dPs_map {α : Type} (l : List α) (f : α → Int × List Int) : PyData.list (((l.filter fun _ => true)).map fun a => dP (f a)) = dPs (l.map f) := by
  unfold dPs
  rw [List.filter_eq_self.mpr fun _ _ => rfl, List.map_map]
  rfl
theorem dL_map {α : Type} (l : List α) (f : α → Int) : PyData.list (((l.filter fun _ => true)).map fun a => PyData.int (f a)) = dL (l.map f) := by
  unfold dL
  rw [List.filter_eq_self.mpr fun _ _ => rfl, List.map_map]
  rfl
/-- y1, y2 = e -/
theorem j_pair {d1 d2 : PyData} {y1 y2 : Str} {py1 py2 tpos : Pos} {kk i1 i2 : Nat} (nd : X.N.Nodup) (h : JD X e σ H (.tuple [d1, d2])) (k : ∀ v u H1, Ex H H1 → Tp H1 v d1 → Tp H1 u d2 → D.nx ((σ.set i1 (some v)).set i2 (some u)) H1)
    (hN1 : X.N[i1]? = some y1 := by rfl) (hl1 : Loc X.env.scope y1 := by first | exact Or.inl rfl | exact Or.inr rfl) (hf1 : X.fn y1 = true ∨ X.env.scope.names.lookup y1 = some .local := by first | exact .inl rfl | exact .inr rfl)
    (hN2 : X.N[i2]? = some y2 := by rfl) (hl2 : Loc X.env.scope y2 := by first | exact Or.inl rfl | exact Or.inr rfl) (hf2 : X.fn y2 = true ∨ X.env.scope.names.lookup y2 = some .local := by first | exact .inl rfl | exact .inr rfl)
    (hc : X.calm = true := by rfl)
    (hsx1 : (assignEach [.Name y1 py1, .Name y2 py2] X.env).map (·.2) = assign (.Name y1 py1) X.env :: (assignEach [.Name y2 py2] X.env).map (·.2) := by rfl) (hsx2 : (assignEach [.Name y2 py2] X.env).map (·.2) = assign (.Name y2 py2) X.env :: (assignEach [] X.env).map (·.2) := by rfl)
    (hnn : (assignEach [.Name y1 py1, .Name y2 py2] X.env).length = 2 := by rfl) (hst : (assignEach [.Name y1 py1, .Name y2 py2] X.env).findIdx? (·.1) = none := by rfl)
    (hs : swapsWithSole [.Tuple [.Name y1 py1, .Name y2 py2] kk tpos] e pos.line X.env = pure false := by rfl) (hw : swappedStores [.Tuple [.Name y1 py1, .Name y2 py2] kk tpos] e X.env = pure none := by rfl)
    (h1 : (assignEach [.Tuple [.Name y1 py1, .Name y2 py2] kk tpos] X.env).map (·.2) = [assign (.Tuple [.Name y1 py1, .Name y2 py2] kk tpos) X.env] := by rfl) :
    J1 X (.Assign [.Tuple [.Name y1 py1, .Name y2 py2] kk tpos] e pos) σ H D :=
  PS.cq (ps_asg h (pg_tup hc (pgs_cons (pg_name (i := i1) nd hN1 hl1 hf1) (pgs_cons (pg_name (i := i2) nd hN2 hl2 hf2) pgs_nil hsx2) hsx1) hnn hst) hs hw h1) fun D' σ' H' q => by
    obtain ⟨rfl, rfl, rfl⟩ := q
    refine ⟨rfl, Ex.refl _, fun v H1 e1 hv => ?_⟩
    obtain ⟨t, xs, rfl, q1, q2⟩ := tp_tup hv
    obtain ⟨v, u, rfl, t1, t2⟩ := tpA2 q2
    exact ⟨t, _, rfl, SqT.of q1, rfl, v, _, rfl, u, _, rfl, rfl, k v u H1 e1 t1 t2⟩
end
section
variable {P : Program} {w : World} {K : PySem.W.Frag} {mg : Str → Option Value} {base : Heap}
/-! ### worth -/
abbrev sWorth : Stmt := topS 36
theorem scWorth : FnScope ["web", "standing", "weights", "person"] ["web", "standing", "weights"] (defScope sWorth) := ⟨rfl, rfl, rfl, by decide +kernel, rfl, by decide +kernel, by decide +kernel⟩
def RWorth : List PyData → PyData → Prop := fun ds d => ∃ (W : List (List Int)) (S ws : List Int), Wb W ∧ Asc W.length S ∧ Wt W.length ws ∧ ds = [dW W, dI S, dI ws] ∧ d = .int (sumW ws S)
theorem ok_worth (B : Bt mg) (F : Df K mg "worth" sWorth ["web", "standing", "weights"]) (O1 : OkC P w K mg base CX0 "need_state" 4 ["web", "standing"] (spD RNeedState)) (O2 : OkC P w K mg base CX0 "need_weights" 3 ["web", "weights"] (spD RNeedWeights)) :
    OkC P w K mg base CX0 "worth" 5 ["web", "standing", "weights"] (spD RWorth) := by
  refine ok_def F scWorth (fun ds d h => by obtain ⟨W, S, G, _, _, _, rfl, _⟩ := h; rfl) (fun f cdv A outer s H E vs ds d Q hr hv hR q => ?_)
  obtain ⟨W, S, ws, hW, hS, hw, rfl, rfl⟩ := hR
  obtain ⟨v1, v2, v3, rfl, t1, t2, t3⟩ := tpA3 hv
  have hn : W.length ≤ 7 := by have := hW.n5; omega
  refine js_cons (j_expr (jd_call O1 (hr.mono (by decide)) (ja_cons (jd_var 0 t1) (ja_cons (jd_var 1 t2) ja_nil)) ⟨W, S, hW, hS, rfl, rfl⟩) fun v H1 e1 hv => ?_)
  refine js_cons (j_expr (jd_call O2 (hr.mono (by decide)) (ja_cons (jd_var 0 (t1.ex e1)) (ja_cons (jd_var 2 (t3.ex e1)) ja_nil)) ⟨W, ws, hw, rfl, rfl⟩) fun v H2 e2 hv => ?_)
  have E2 := e1.trans e2
  refine js_one (j_ret (jd_sumW (ws := ws) (S := S) rfl B.sum (jd_lcT (i := 3) (l := S) (enc := PyData.int) (f := fun _ => true) (g := fun q => .int (wt ws q)) scWorth.nd (jd_var 1 (t2.ex E2))
    ⟨fun _ => flt_int _, asc_small hS hn, fun s0 H0 C cl fp a ha v H' e' hv => pts_yes, fun s0 H0 C cl fp a ha hf v H' e' hv => jd_wt hw (hS.lt a ha) (jd_var 2 (t3.ex (E2.trans e'))) (jd_var 3 hv)⟩)) fun v H3 e3 hv => q v H3 (E2.trans e3) hv)
/-! ### richest_end -/
abbrev sRich : Stmt := topS 37
theorem scRich : FnScope ["web", "standing", "weights", "many", "end", "person"] ["web", "standing", "weights"] (defScope sRich) := ⟨rfl, rfl, rfl, by decide +kernel, rfl, by decide +kernel, by decide +kernel⟩
def RRich : List PyData → PyData → Prop := fun ds d => ∃ (W : List (List Int)) (S ws : List Int), Wb W ∧ Asc W.length S ∧ Wt W.length ws ∧ endsM W S ≠ [] ∧ ds = [dW W, dI S, dI ws] ∧ d = dP (-(minL ((endsM W S).map fun e => (-(sumW ws e), e))).1, (minL ((endsM W S).map fun e => (-(sumW ws e), e))).2)
theorem mem_ends {W : List (List Int)} {S e : List Int} (h : e ∈ endsM W S) : e.Sublist S := (mem_choices S e).mp (List.mem_filter.mp (List.mem_mergeSort.mp h)).1
theorem mem_tell {W : List (List Int)} {S G e : List Int} (h : e ∈ tellM W S G) : e.Sublist S := ((mem_choices _ e).mp (List.mem_filter.mp (List.mem_mergeSort.mp h)).1).trans List.filter_sublist
theorem len_ends {W : List (List Int)} {S : List Int} {n : Nat} (h : Asc n S) (hn : n ≤ 7) : (endsM W S).length ≤ 128 := by
  have h1 := choices_small h hn
  have h2 := List.length_filter_le (fun r => apartM W r && fitsM W S r) (choicesM S)
  unfold endsM
  rw [len_sortR]
  omega
theorem len_tell {W : List (List Int)} {S G : List Int} {n : Nat} (h : Asc n S) (hn : n ≤ 7) : (tellM W S G).length ≤ 128 := by
  have h1 := choices_small (n := n) (S := mayM W S G) (asc_filter _ h) hn
  have h2 := List.length_filter_le (leadsM W S G) (choicesM (mayM W S G))
  unfold tellM
  rw [len_sortR]
  omega
theorem ok_rich (B : Bt mg) (F : Df K mg "richest_end" sRich ["web", "standing", "weights"]) (O1 : OkC P w K mg base CX0 "need_state" 4 ["web", "standing"] (spD RNeedState)) (O2 : OkC P w K mg base CX0 "need_weights" 3 ["web", "weights"] (spD RNeedWeights)) (O3 : OkC P w K mg base CX0 "ends_in" 3 ["web", "standing"] (spD REnds)) :
    OkC P w K mg base CX0 "richest_end" 5 ["web", "standing", "weights"] (spD RRich) := by
  refine ok_def F scRich (fun ds d h => by obtain ⟨W, S, G, _, _, _, _, rfl, _⟩ := h; rfl) (fun f cdv A outer s H E vs ds d Q hr hv hR q => ?_)
  obtain ⟨W, S, ws, hW, hS, hw, hne, rfl, rfl⟩ := hR
  obtain ⟨v1, v2, v3, rfl, t1, t2, t3⟩ := tpA3 hv
  have hn : W.length ≤ 7 := by have := hW.n5; omega
  have hl := len_ends (W := W) hS hn
  refine js_cons (j_expr (jd_call O1 (hr.mono (by decide)) (ja_cons (jd_var 0 t1) (ja_cons (jd_var 1 t2) ja_nil)) ⟨W, S, hW, hS, rfl, rfl⟩) fun v H1 e1 hv => ?_)
  refine js_cons (j_expr (jd_call O2 (hr.mono (by decide)) (ja_cons (jd_var 0 (t1.ex e1)) (ja_cons (jd_var 2 (t3.ex e1)) ja_nil)) ⟨W, ws, hw, rfl, rfl⟩) fun v H2 e2 hv => ?_)
  have E2 := e1.trans e2
  refine js_cons (j_pair (i1 := 3) (i2 := 4) (d1 := .int (minL ((endsM W S).map fun e => (-(sumW ws e), e))).1) (d2 := dI (minL ((endsM W S).map fun e => (-(sumW ws e), e))).2) scRich.nd (jd_minL (R := (endsM W S).map fun e => (-(sumW ws e), e)) (by simpa using hne) rfl hr.units B.min (jd_is (jd_lcL (i := 4) (l := endsM W S) (enc := dI) (f := fun _ => true) (g := fun e => dP (-(sumW ws e), e)) scRich.nd
    (jd_call O3 (hr.mono (by decide)) (ja_cons (jd_var 0 (t1.ex E2)) (ja_cons (jd_var 1 (t2.ex E2)) ja_nil)) ⟨W, S, hW, hS, rfl, rfl⟩)
    ⟨fun _ => flt_P _, by omega, fun s0 H0 C cl fp a ha v H' e' hv => pts_yes, fun s0 H0 C cl fp a ha hf v H' e' hv => ?_⟩) (dPs_map _ _))) fun v4 v5 H3 e3 t4 t5 => ?_)
  · have ae := asc_sub hS (mem_ends ha)
    exact jd_tup (ja_cons (jd_neg (jd_sumW (ws := ws) (S := a) rfl B.sum (jd_lcT (i := 5) (l := a) (enc := PyData.int) (f := fun _ => true) (g := fun q => .int (wt ws q)) scRich.nd (jd_var 4 hv)
      ⟨fun _ => flt_int _, asc_small ae hn, fun s0 H0 C cl fp b hb v' H'' e'' hv' => pts_yes, fun s0 H0 C cl fp b hb hf v' H'' e'' hv' => jd_wt hw (ae.lt b hb) (jd_var 2 (t3.ex (E2.trans (e'.trans e'')))) (jd_var 5 hv')⟩))) (ja_cons (jd_var 4 hv) ja_nil))
  · exact js_one (j_ret (jd_tup (ja_cons (jd_neg (jd_var 3 t4)) (ja_cons (jd_var 4 t5) ja_nil))) fun v H4 e4 hv => q v H4 ((E2.trans e3).trans e4) hv)
/-! ### poorest_end -/
abbrev sPoor : Stmt := topS 38
theorem scPoor : FnScope ["web", "standing", "weights", "end", "person"] ["web", "standing", "weights"] (defScope sPoor) := ⟨rfl, rfl, rfl, by decide +kernel, rfl, by decide +kernel, by decide +kernel⟩
def RPoor : List PyData → PyData → Prop := fun ds d => ∃ (W : List (List Int)) (S ws : List Int), Wb W ∧ Asc W.length S ∧ Wt W.length ws ∧ endsM W S ≠ [] ∧ ds = [dW W, dI S, dI ws] ∧ d = dP (minL ((endsM W S).map fun e => (sumW ws e, e)))
theorem ok_poor (B : Bt mg) (F : Df K mg "poorest_end" sPoor ["web", "standing", "weights"]) (O1 : OkC P w K mg base CX0 "need_state" 4 ["web", "standing"] (spD RNeedState)) (O2 : OkC P w K mg base CX0 "need_weights" 3 ["web", "weights"] (spD RNeedWeights)) (O3 : OkC P w K mg base CX0 "ends_in" 3 ["web", "standing"] (spD REnds)) :
    OkC P w K mg base CX0 "poorest_end" 5 ["web", "standing", "weights"] (spD RPoor) := by
  refine ok_def F scPoor (fun ds d h => by obtain ⟨W, S, G, _, _, _, _, rfl, _⟩ := h; rfl) (fun f cdv A outer s H E vs ds d Q hr hv hR q => ?_)
  obtain ⟨W, S, ws, hW, hS, hw, hne, rfl, rfl⟩ := hR
  obtain ⟨v1, v2, v3, rfl, t1, t2, t3⟩ := tpA3 hv
  have hn : W.length ≤ 7 := by have := hW.n5; omega
  have hl := len_ends (W := W) hS hn
  refine js_cons (j_expr (jd_call O1 (hr.mono (by decide)) (ja_cons (jd_var 0 t1) (ja_cons (jd_var 1 t2) ja_nil)) ⟨W, S, hW, hS, rfl, rfl⟩) fun v H1 e1 hv => ?_)
  refine js_cons (j_expr (jd_call O2 (hr.mono (by decide)) (ja_cons (jd_var 0 (t1.ex e1)) (ja_cons (jd_var 2 (t3.ex e1)) ja_nil)) ⟨W, ws, hw, rfl, rfl⟩) fun v H2 e2 hv => ?_)
  have E2 := e1.trans e2
  refine js_one (j_ret (jd_minL (R := (endsM W S).map fun e => (sumW ws e, e)) (by simpa using hne) rfl hr.units B.min (jd_is (jd_lcL (i := 3) (l := endsM W S) (enc := dI) (f := fun _ => true) (g := fun e => dP (sumW ws e, e)) scPoor.nd
    (jd_call O3 (hr.mono (by decide)) (ja_cons (jd_var 0 (t1.ex E2)) (ja_cons (jd_var 1 (t2.ex E2)) ja_nil)) ⟨W, S, hW, hS, rfl, rfl⟩)
    ⟨fun _ => flt_P _, by omega, fun s0 H0 C cl fp a ha v H' e' hv => pts_yes, fun s0 H0 C cl fp a ha hf v H' e' hv => ?_⟩) (dPs_map _ _))) fun v H3 e3 hv => q v H3 (E2.trans e3) hv)
  have ae := asc_sub hS (mem_ends ha)
  exact jd_tup (ja_cons (jd_sumW (ws := ws) (S := a) rfl B.sum (jd_lcT (i := 4) (l := a) (enc := PyData.int) (f := fun _ => true) (g := fun q => .int (wt ws q)) scPoor.nd (jd_var 3 hv)
      ⟨fun _ => flt_int _, asc_small ae hn, fun s0 H0 C cl fp b hb v' H'' e'' hv' => pts_yes, fun s0 H0 C cl fp b hb hf v' H'' e'' hv' => jd_wt hw (ae.lt b hb) (jd_var 2 (t3.ex (E2.trans (e'.trans e'')))) (jd_var 4 hv')⟩)) (ja_cons (jd_var 3 hv) ja_nil))
/-! ### cheapest_end -/
abbrev sCheapE : Stmt := topS 39
theorem scCheapE : FnScope ["web", "standing", "weights", "found", "end", "some", "row", "person"] ["web", "standing", "weights"] (defScope sCheapE) := ⟨rfl, rfl, rfl, by decide +kernel, rfl, by decide +kernel, by decide +kernel⟩
def costM (W : List (List Int)) (S ws e : List Int) : Int := minI ((tellM W S e).map (sumW ws))
def cheapEM (W : List (List Int)) (S ws : List Int) : List (Int × List Int) := (endsM W S).map fun e => (costM W S ws e, e)
def RCheapE : List PyData → PyData → Prop := fun ds d => ∃ (W : List (List Int)) (S ws : List Int), Wb W ∧ Asc W.length S ∧ Wt W.length ws ∧ endsM W S ≠ [] ∧ (∀ e ∈ endsM W S, tellM W S e ≠ []) ∧ ds = [dW W, dI S, dI ws] ∧ d = dP (minL (cheapEM W S ws))
theorem flt_A_Is (R : List (List Int)) : fltA (R.map dI) = true := fltA_map dI flt_I R
theorem get_I {R : List (List Int)} {j : Nat} {d : PyData} (h : (R.map dI)[j]? = some d) : ∃ r, R[j]? = some r ∧ d = dI r := by
  rw [List.getElem?_map] at h
  cases q : R[j]? with
  | none => rw [q] at h; cases h
  | some r =>
    rw [q] at h
    exact ⟨r, rfl, (Option.some.inj h).symm⟩
theorem ok_cheapE (B : Bt mg) (F : Df K mg "cheapest_end" sCheapE ["web", "standing", "weights"]) (O1 : OkC P w K mg base CX0 "need_state" 4 ["web", "standing"] (spD RNeedState)) (O2 : OkC P w K mg base CX0 "need_weights" 3 ["web", "weights"] (spD RNeedWeights)) (O3 : OkC P w K mg base CX0 "ends_in" 3 ["web", "standing"] (spD REnds)) (O4 : OkC P w K mg base CX0 "telling_in" 3 ["web", "standing", "goal"] (spD RTell)) :
    OkC P w K mg base CX0 "cheapest_end" 5 ["web", "standing", "weights"] (spD RCheapE) := by
  refine ok_def F scCheapE (fun ds d h => by obtain ⟨W, S, G, _, _, _, _, _, rfl, _⟩ := h; rfl) (fun f cdv A outer s H E vs ds d Q hr hv hR q => ?_)
  obtain ⟨W, S, ws, hW, hS, hw, hne, hnt, rfl, rfl⟩ := hR
  obtain ⟨v1, v2, v3, rfl, t1, t2, t3⟩ := tpA3 hv
  have hn : W.length ≤ 7 := by have := hW.n5; omega
  have hl := len_ends (W := W) hS hn
  refine js_cons (j_expr (jd_call O1 (hr.mono (by decide)) (ja_cons (jd_var 0 t1) (ja_cons (jd_var 1 t2) ja_nil)) ⟨W, S, hW, hS, rfl, rfl⟩) fun v H1 e1 hv => ?_)
  refine js_cons (j_expr (jd_call O2 (hr.mono (by decide)) (ja_cons (jd_var 0 (t1.ex e1)) (ja_cons (jd_var 2 (t3.ex e1)) ja_nil)) ⟨W, ws, hw, rfl, rfl⟩) fun v H2 e2 hv => ?_)
  have E2 := e1.trans e2
  refine js_cons (j_setN (i := 3) (ds := []) scCheapE.nd (jn_lst ja_nil) fun l H3 hl3 e3 tl => ?_)
  have hl0 : H l = none := fresh_back E2 hl3
  have E3 := E2.trans e3
  refine js_cons (j_forL (i := 4) (ds := (endsM W S).map dI) scCheapE.nd (jd_call O3 (hr.mono (by decide)) (ja_cons (jd_var 0 (t1.ex E3)) (ja_cons (jd_var 1 (t2.ex E3)) ja_nil)) ⟨W, S, hW, hS, rfl, rfl⟩)
    (fun v j σ' H' => Ex H H' ∧ v ≠ .ref l ∧ Tp H' v (dR (endsM W S)) ∧ ∃ o4 o5, σ' = [some v1, some v2, some v3, some (.ref l), o4, o5, none, none] ∧ Tp H' (.ref l) (dPs (((endsM W S).take j).map fun e => (costM W S ws e, e))))
    (fun v H4 e4 hv => ⟨E3.trans e4, fun z => ?_, hv, none, none, rfl, tl.ex e4⟩) (fun v j σ' H' p => p.2.2.1) (fun v0 j d v σ' H' hj hv p => ?_) (fun v σ' H' p => ?_))
  · subst z
    have u := Tp.uniq _ _ hv _ (tl.ex e4)
    have u' : (endsM W S).map dI = [] := PyData.list.inj u
    exact hne (List.map_eq_nil_iff.mp u')
  · obtain ⟨p1, pn, p2, o4, o5, rfl, p3⟩ := p
    obtain ⟨r, hr', rfl⟩ := get_I hj
    have mem : r ∈ endsM W S := List.mem_of_getElem? hr'
    have ae := asc_sub hS (mem_ends mem)
    have lt := len_tell (W := W) (G := r) hS hn
    have htake : (endsM W S).take (j + 1) = (endsM W S).take j ++ [r] := by rw [List.take_add_one, hr']; rfl
    refine js_cons (j_set (i := 5) (d := dR (tellM W S r)) scCheapE.nd (jd_call O4 (hr.mono (by decide)) (ja_cons (jd_var 0 (t1.ex p1)) (ja_cons (jd_var 1 (t2.ex p1)) (ja_cons (jd_var 4 hv) ja_nil))) ⟨W, S, r, hW, hS, ae, rfl, rfl⟩) fun vs5 H5 e5 t5 => ?_)
    refine js_one (j_append (i := 3) (d := dP (costM W S ws r, r)) rfl (p3.ex e5) (jd_tup (ja_cons (jd_minI (l := (tellM W S r).map (sumW ws)) rfl (by rw [List.length_map]; exact List.length_pos_iff.mpr (hnt r mem)) B.min (jd_is (jd_lcL (i := 6) (l := tellM W S r) (enc := dI) (f := fun _ => true) (g := fun e => .int (sumW ws e)) scCheapE.nd (jd_var 5 t5)
      ⟨fun _ => flt_int _, by omega, fun s0 H0 C cl fp a ha v H' e' hv => pts_yes, fun s0 H0 C cl fp a ha hf v H' e' hv => ?_⟩) (dL_map _ _))) (ja_cons (jd_var 4 (hv.ex e5)) ja_nil))) (flt_P _) (flt_A_P _) (by rw [List.length_map, List.length_map, List.length_take]; omega) fun H6 km tx tl2 => ?_)
    · have aa := asc_sub hS (mem_tell ha)
      exact jd_sumW (ws := ws) (S := a) rfl B.sum (jd_lcT (i := 7) (l := a) (enc := PyData.int) (f := fun _ => true) (g := fun q => .int (wt ws q)) scCheapE.nd (jd_var 6 hv)
        ⟨fun _ => flt_int _, asc_small aa hn, fun s0 H0 C cl fp b hb v' H'' e'' hv' => pts_yes, fun s0 H0 C cl fp b hb hf v' H'' e'' hv' => jd_wt hw (aa.lt b hb) (jd_var 2 (t3.ex (p1.trans (e5.trans (e'.trans e''))))) (jd_var 7 hv')⟩)
    · obtain ⟨va, vxs, rfl, q1, q2⟩ := tp_lst p2
      refine ⟨km.ex hl0 (p1.trans e5), pn, km.lst tx (fun z => pn (by rw [z])) (p2.ex e5) (flt_A_I _), _, _, rfl, ?_⟩
      rw [htake]
      unfold dPs
      rw [List.map_append, List.map_append]
      exact tl2
  · obtain ⟨p1, pn, p2, o4, o5, rfl, p3⟩ := p
    rw [List.length_map, List.take_length] at p3
    exact js_one (j_ret (jd_minL (R := cheapEM W S ws) (by simpa [cheapEM] using hne) rfl hr.units B.min (jd_var 3 p3)) fun v H7 e7 hv => q v H7 (p1.trans e7) hv)
/-! ### richest_with -/
abbrev sRichW : Stmt := topS 40
theorem scRichW : FnScope ["web", "standing", "weights", "person", "some", "end", "one"] ["web", "standing", "weights", "person"] (defScope sRichW) := ⟨rfl, rfl, rfl, by decide +kernel, rfl, by decide +kernel, by decide +kernel⟩
def richWM (W : List (List Int)) (S ws : List Int) (p : Int) : List Int := ((endsM W S).filter fun e => decide (p ∈ e)).map (sumW ws)
def dMax (l : List Int) : PyData := if l = [] then .none else .int (maxI l)
def RRichW : List PyData → PyData → Prop := fun ds d => ∃ (W : List (List Int)) (S ws : List Int) (p : Int), Wb W ∧ Asc W.length S ∧ Wt W.length ws ∧ (0 ≤ p ∧ p < W.length) ∧ ds = [dW W, dI S, dI ws, .int p] ∧ d = dMax (richWM W S ws p)
theorem ok_richW (B : Bt mg) (F : Df K mg "richest_with" sRichW ["web", "standing", "weights", "person"]) (O1 : OkC P w K mg base CX0 "need_state" 4 ["web", "standing"] (spD RNeedState)) (O2 : OkC P w K mg base CX0 "need_weights" 3 ["web", "weights"] (spD RNeedWeights)) (O3 : OkC P w K mg base CX0 "ends_in" 3 ["web", "standing"] (spD REnds)) (O4 : OkC P w K mg base CX0 "need_person" 3 ["web", "person"] (spD RNeedPerson)) :
    OkC P w K mg base CX0 "richest_with" 5 ["web", "standing", "weights", "person"] (spD RRichW) := by
  refine ok_def F scRichW (fun ds d h => by obtain ⟨W, S, G, p, _, _, _, _, rfl, _⟩ := h; rfl) (fun f cdv A outer s H E vs ds d Q hr hv hR q => ?_)
  obtain ⟨W, S, ws, p, hW, hS, hw, hp, rfl, rfl⟩ := hR
  obtain ⟨v1, v2, v3, v4, rfl, t1, t2, t3, t4⟩ := tpA4 hv
  have hn : W.length ≤ 7 := by have := hW.n5; omega
  have hl := len_ends (W := W) hS hn
  refine js_cons (j_expr (jd_call O1 (hr.mono (by decide)) (ja_cons (jd_var 0 t1) (ja_cons (jd_var 1 t2) ja_nil)) ⟨W, S, hW, hS, rfl, rfl⟩) fun v H1 e1 hv => ?_)
  refine js_cons (j_expr (jd_call O2 (hr.mono (by decide)) (ja_cons (jd_var 0 (t1.ex e1)) (ja_cons (jd_var 2 (t3.ex e1)) ja_nil)) ⟨W, ws, hw, rfl, rfl⟩) fun v H2 e2 hv => ?_)
  have E2 := e1.trans e2
  refine js_cons (j_expr (jd_call O4 (hr.mono (by decide)) (ja_cons (jd_var 0 (t1.ex E2)) (ja_cons (jd_var 3 (t4.ex E2)) ja_nil)) ⟨W, p, hp, rfl, rfl⟩) fun v H3 e3 hv => ?_)
  have E3 := E2.trans e3
  refine js_cons (j_setLcL (i := 5) (iy := 4) (l := endsM W S) (enc := dI) (f := fun e => decide (p ∈ e)) (g := fun e => .int (sumW ws e)) scRichW.nd (jd_call O3 (hr.mono (by decide)) (ja_cons (jd_var 0 (t1.ex E3)) (ja_cons (jd_var 1 (t2.ex E3)) ja_nil)) ⟨W, S, hW, hS, rfl, rfl⟩)
    ⟨fun _ => flt_int _, by omega, fun s0 H0 C cl fp a ha v H' e' hv => pts_one (jt_in (jd_var 3 (t4.ex (E3.trans e'))) (jd_var 5 hv)), fun s0 H0 C cl fp a ha hf v H' e' hv => ?_⟩ fun v5 H4 e4 t5 => ?_)
  · have ae := asc_sub hS (mem_ends ha)
    exact jd_sumW (ws := ws) (S := a) rfl B.sum (jd_lcT (i := 6) (l := a) (enc := PyData.int) (f := fun _ => true) (g := fun q => .int (wt ws q)) scRichW.nd (jd_var 5 hv)
      ⟨fun _ => flt_int _, asc_small ae hn, fun s0 H0 C cl fp b hb v' H'' e'' hv' => pts_yes, fun s0 H0 C cl fp b hb hf v' H'' e'' hv' => jd_wt hw (ae.lt b hb) (jd_var 2 (t3.ex (E3.trans (e'.trans e'')))) (jd_var 6 hv')⟩)
  · have et : (PyData.list (((endsM W S).filter fun e => decide (p ∈ e)).map fun e => .int (sumW ws e))) = dL (richWM W S ws p) := by
      unfold dL richWM
      rw [List.map_map]
      rfl
    have t5' : Tp H4 v5 (dL (richWM W S ws p)) := et ▸ t5
    refine js_one (j_ret (d := dMax (richWM W S ws p)) (jd_ite (x := !decide (richWM W S ws p = [])) (jt_is (jt_cmp (op_neD hr.units) (k_neD (shp_L _) (shp_L [])) (jd_var 4 t5') (jd_lst ja_nil)) (by rw [eqv_L])) (fun hx => ?_) fun hx => ?_) fun v H5 e5 hv => q v H5 ((E3.trans e4).trans e5) hv)
    · have ne : richWM W S ws p ≠ [] := by simpa using hx
      unfold dMax
      rw [if_neg ne]
      exact jd_maxI (l := richWM W S ws p) rfl (List.length_pos_iff.mpr ne) B.max (jd_var 4 t5')
    · have ne : richWM W S ws p = [] := by simpa using hx
      unfold dMax
      rw [if_pos ne]
      exact jd_non
end
end TJ
set_option Elab.async false
set_option linter.all false
set_option maxRecDepth 100000
set_option maxHeartbeats 4000000
namespace TJ
open PySem PySem.Spec PyProof.Rows L2
open Evl (Ex fresh_back)
/-! ### defs that may raise -/
/-- R: it gives data; Rx: it raises an instance of the class c -/
def spX (c : Addr) (R : List PyData → PyData → Prop) (Rx : List PyData → Prop) : Sp := fun vs H Q E => ∃ ds, TpA H vs ds ∧ ((∃ d, R ds d ∧ ∀ v H', Ex H H' → Tp H' v d → Q v H') ∨ (Rx ds ∧ ∀ H', Ex H H' → E (.ref c) none H'))
/-- the class NotMade -/
structure NM (K : PySem.W.Frag) (mg : Str → Option Value) (c : Addr) : Prop where
  g : mg "NotMade" = some (.ref c)
  k : PySem.W.keepIn K (.ref c) = true
  ex : PySem.W.excIn K c [.type "ValueError", .type "Exception", .type "BaseException", .type "object"] "ValueError.__new__" = true
  sub : PySem.W.subIn K (.ref c) (.type "BaseException") = some true
  ty : PySem.W.typeIn K (.ref c) = some (.type "type")
section
variable {X : Cx} {e a b : Expr} {es : List Expr} {σ : L2.St} {H : Hp} {pos p : Pos} {x : Str} {D : Ends}
/-- C(), C an own class of exceptions without own __init__ -/
theorem pmk_own0 {C : Addr} {bmB : List Value} {B newId initId : String} (F : ExcBaseFacts B newId initId bmB) (q : PySem.W.excIn X.K C bmB newId = true) (gC : X.mg x = some (.ref C)) (kC : PySem.W.keepIn X.K (.ref C) = true) (r : Raises X (.ref C)) (hg : Gl X x)
    (hdb : (x == ("__debug__" : Str)) = false := by decide) : PMk X (.Call (.Name x p) [] [] pos) (fun _ H Q => Q (.ref C) none H) := by
  intro pins s σ H Q I h
  refine wpAny_Call_Name_kw (ld_glob I hg gC ?_ hdb)
  refine PySem.W.callWith_K0 I.kIn kC ?_
  obtain ⟨bm, N, nm, qn, bs, hdct, sn, sub, ab, col, dd, k0, k1, k2, k3, k5, mN, hC, hN, hni, T⟩ := exc_obj I.kIn q
  refine wpAny_call_exc_subT F T hC hN hni (fun h1 e hm => ?_) (by exact Nat.zero_le _)
  exact mk_of I hm r h (I.hok.gone hm.new)
/-- raise C() -/
theorem j_raise0 {C : Addr} {W : WX} {pos' : Pos} (N : NM X.K X.mg C) (tk : Takes X W) (hW : W (.ref C) none σ H) (hg : Gl X "NotMade" := by rfl) (hc : X.calm = true := by rfl) : J1 X (.Raise (some (.Call (.Name "NotMade" p) [] [] pos)) none pos') σ H D :=
  PS.cq (ps_raise hc tk (pmk_own0 PySem.F.excBase_ValueError N.ex N.g N.k (raises_own N.sub N.ty) hg)) fun D' σ' H' q => by
    obtain ⟨rfl, rfl, rfl⟩ := q
    exact hW
/-- a call that gives data -/
theorem jd_callX {k : Nat} {c : Addr} {ps : List Str} {R : List PyData → PyData → Prop} {Rx : List PyData → Prop} {ds : List PyData} {d : PyData} {E : XK} (O : OkC X.prog X.w X.K X.mg X.base (L2.CX X.prog X.w) x k ps (spX c R Rx)) (hr : Room k X.A) (tk : Takes X fun cls d _ H => E cls d H) (ha : JA X (e :: es) σ H ds) (hR : R ds d)
    (hg : Gl X x := by rfl) (hdb : (x == ("__debug__" : Str)) = false := by decide) (he : starEach (e :: es) X.env = (false, eval e X.env) :: starEach es X.env := by rfl) (hpl : (backTo pos (starEach es X.env)).any (·.1) = false := by rfl) :
    JD X (.Call (.Name x p) (e :: es) [] pos) σ H d := by
  obtain ⟨f, fd, hm, hk, hb, F⟩ := O.ex
  refine PE.cq (pe_call (E := E) F hr hg hm hk hb .nil (passes_call tk fun _ _ _ _ h => h) ha hdb he hpl) fun σ' H1 Q q => ?_
  obtain ⟨rfl, e1, q⟩ := q
  exact ⟨rfl, e1, fun vs H2 e2 hvs => ⟨ds, by rw [List.append_nil]; exact hvs, .inl ⟨d, hR, fun v H3 e3 hv => q v H3 (e2.trans e3) hv⟩⟩⟩
/-- a call that raises -/
def tRx (σ : L2.St) (H : Hp) : TE := fun σ' H1 _ => σ' = σ ∧ Ex H H1
theorem jx_callX {k : Nat} {c : Addr} {ps : List Str} {R : List PyData → PyData → Prop} {Rx : List PyData → Prop} {ds : List PyData} {E : XK} (O : OkC X.prog X.w X.K X.mg X.base (L2.CX X.prog X.w) x k ps (spX c R Rx)) (hr : Room k X.A) (tk : Takes X fun cls d _ H => E cls d H) (ha : JA X (e :: es) σ H ds) (hR : Rx ds)
    (hE : ∀ H', Ex H H' → E (.ref c) none H')
    (hg : Gl X x := by rfl) (hdb : (x == ("__debug__" : Str)) = false := by decide) (he : starEach (e :: es) X.env = (false, eval e X.env) :: starEach es X.env := by rfl) (hpl : (backTo pos (starEach es X.env)).any (·.1) = false := by rfl) :
    PE X (.Call (.Name x p) (e :: es) [] pos) (tRx σ H) := by
  obtain ⟨f, fd, hm, hk, hb, F⟩ := O.ex
  refine PE.cq (pe_call (E := E) F hr hg hm hk hb .nil (passes_call tk fun _ _ _ _ h => h) ha hdb he hpl) fun σ' H1 Q q => ?_
  obtain ⟨rfl, e1⟩ := q
  exact ⟨rfl, e1, fun vs H2 e2 hvs => ⟨ds, by rw [List.append_nil]; exact hvs, .inr ⟨hR, fun H' e' => hE H' ((e1.trans e2).trans e')⟩⟩⟩
theorem j_exprX (h : PE X e (tRx σ H)) (hs : swapsWith e none pos.line X.env = pure false := by rfl) : J1 X (.Expr e pos) σ H D := PS.cq (ps_expr h hs) fun D' σ' H' q => by
  obtain ⟨rfl, rfl, rfl⟩ := q
  exact ⟨rfl, Ex.refl _⟩
end
section
variable {P : Program} {w : World} {K : PySem.W.Frag} {mg : Str → Option Value} {base : Heap}
theorem takesX {x : Str} {st : Stmt} {N : List Str} {f : Addr} {cdv : Value} {A : Around} {outer : List Env} {s : Shared} {H : Hp} {E : XK} : Takes (cxOf (L2.CX P w) P w K mg base N x (defScope st) f cdv A outer s H E) (fun cls d _ H => E cls d H) := takes_of rfl rfl rfl rfl
theorem ok_defX {x : Str} {st : Stmt} {N ps : List Str} {k : Nat} {c : Addr} {R : List PyData → PyData → Prop} {Rx : List PyData → Prop} (F : Df K mg x st ps) (S : FnScope N ps (defScope st)) (len : ∀ ds, (∃ d, R ds d) ∨ Rx ds → ds.length = ps.length)
    (hbody : ∀ (f : Addr) (cdv : Value) (A : Around) (outer : List Env) (s : Shared) (H : Hp) (E : XK) (vs : List V) (ds : List PyData) (Q : VK), Room k (cxOf (L2.CX P w) P w K mg base N x (defScope st) f cdv A outer s H E).A → TpA H vs ds → ((∃ d, R ds d ∧ ∀ v H', Ex H H' → Tp H' v d → Q v H') ∨ (Rx ds ∧ ∀ H', Ex H H' → E (.ref c) none H')) →
      JS (cxOf (L2.CX P w) P w K mg base N x (defScope st) f cdv A outer s H E) (defBody st) (start N vs) H { nx := fun _ H' => Q .non H', rt := Q }) : OkC P w K mg base (L2.CX P w) x (k + 1) ps (spX c R Rx) := by
  obtain ⟨f, fd, hm, hF, hb⟩ := F.ex
  refine ⟨f, fd, hm, hF.kp, hb, hF.okX S (fun vs H Q E h => ?_) (fun cdv A outer s H vs Q E hr h => ?_)⟩
  · obtain ⟨ds, h1, h2⟩ := h
    rw [h1.len]
    exact len ds (h2.imp (fun z => ⟨z.choose, z.choose_spec.1⟩) fun z => z.1)
  · obtain ⟨ds, h1, h2⟩ := h
    exact ⟨_, hbody f cdv A outer s H E vs ds Q hr h1 h2, rfl, rfl, rfl⟩
/-! ### need_way -/
abbrev sNeedWay : Stmt := topS 27
theorem scNeedWay : FnScope ["web", "standing", "goal"] ["web", "standing", "goal"] (defScope sNeedWay) := ⟨rfl, rfl, rfl, by decide +kernel, rfl, by decide +kernel, by decide +kernel⟩
def RNeedWay : List PyData → PyData → Prop := fun ds d => ∃ (W : List (List Int)) (S G : List Int), Wb W ∧ Asc W.length S ∧ Asc W.length G ∧ fitsM W S G = true ∧ ds = [dW W, dI S, dI G] ∧ d = .none
def XNeedWay : List PyData → Prop := fun ds => ∃ (W : List (List Int)) (S G : List Int), Wb W ∧ Asc W.length S ∧ Asc W.length G ∧ fitsM W S G = false ∧ ds = [dW W, dI S, dI G]
theorem ok_need_way {c : Addr} (N : NM K mg c) (F : Df K mg "need_way" sNeedWay ["web", "standing", "goal"]) (O1 : OkC P w K mg base CX0 "need_two" 5 ["web", "standing", "goal"] (spD RNeedTwo)) (O2 : OkC P w K mg base CX0 "fits" 2 ["web", "standing", "goal"] (spD RFits)) :
    OkC P w K mg base (L2.CX P w) "need_way" 6 ["web", "standing", "goal"] (spX c RNeedWay XNeedWay) := by
  refine ok_defX F scNeedWay (fun ds h => ?_) (fun f cdv A outer s H E vs ds Q hr hv hR => ?_)
  · rcases h with ⟨d, W, S, G, _, _, _, _, rfl, _⟩ | ⟨W, S, G, _, _, _, _, rfl⟩ <;> rfl
  have hall : ∃ (W : List (List Int)) (S G : List Int), Wb W ∧ Asc W.length S ∧ Asc W.length G ∧ ds = [dW W, dI S, dI G] ∧ ((fitsM W S G = true ∧ ∀ v H', Ex H H' → Tp H' v .none → Q v H') ∨ (fitsM W S G = false ∧ ∀ H', Ex H H' → E (.ref c) none H')) := by
    rcases hR with ⟨d, ⟨W, S, G, hW, hS, hG, hf, rfl, rfl⟩, q⟩ | ⟨⟨W, S, G, hW, hS, hG, hf, rfl⟩, q⟩
    · exact ⟨W, S, G, hW, hS, hG, rfl, .inl ⟨hf, q⟩⟩
    · exact ⟨W, S, G, hW, hS, hG, rfl, .inr ⟨hf, q⟩⟩
  obtain ⟨W, S, G, hW, hS, hG, rfl, q⟩ := hall
  obtain ⟨v1, v2, v3, rfl, t1, t2, t3⟩ := tpA3 hv
  refine js_cons (j_expr (jd_call O1 (hr.mono (by decide)) (ja_cons (jd_var 0 t1) (ja_cons (jd_var 1 t2) (ja_cons (jd_var 2 t3) ja_nil))) ⟨W, S, G, hW, hS, hG, rfl, rfl⟩) fun v H1 e1 hv => ?_)
  refine js_one (j_if (jt_not (jt_val (jd_call O2 (hr.mono (by decide)) (ja_cons (jd_var 0 (t1.ex e1)) (ja_cons (jd_var 1 (t2.ex e1)) (ja_cons (jd_var 2 (t3.ex e1)) ja_nil))) ⟨W, S, G, hW, hS, hG, rfl, rfl⟩))) (fun hb H2 e2 => ?_) (fun hb H2 e2 => ?_))
  · rcases q with ⟨hf, q⟩ | ⟨hf, q⟩
    · rw [hf] at hb; cases hb
    · exact js_one (j_raise0 N takesX (q _ (e1.trans e2)))
  · rcases q with ⟨hf, q⟩ | ⟨hf, q⟩
    · exact js_nil (q _ _ (e1.trans e2) .non)
    · rw [hf] at hb; cases hb
/-! ### cheapest_telling -/
abbrev sCheapT : Stmt := topS 35
theorem scCheapT : FnScope ["web", "standing", "goal", "weights", "found", "row", "person"] ["web", "standing", "goal", "weights"] (defScope sCheapT) := ⟨rfl, rfl, rfl, by decide +kernel, rfl, by decide +kernel, by decide +kernel⟩
def cheapTM (W : List (List Int)) (S G ws : List Int) : List (Int × List Int) := (tellM W S G).map fun r => (sumW ws r, r)
def RCheapT : List PyData → PyData → Prop := fun ds d => ∃ (W : List (List Int)) (S G ws : List Int), Wb W ∧ Asc W.length S ∧ Asc W.length G ∧ Wt W.length ws ∧ fitsM W S G = true ∧ tellM W S G ≠ [] ∧ ds = [dW W, dI S, dI G, dI ws] ∧ d = dP (minL (cheapTM W S G ws))
def XCheapT : List PyData → Prop := fun ds => ∃ (W : List (List Int)) (S G ws : List Int), Wb W ∧ Asc W.length S ∧ Asc W.length G ∧ Wt W.length ws ∧ fitsM W S G = false ∧ ds = [dW W, dI S, dI G, dI ws]
theorem ok_cheapT {c : Addr} (B : Bt mg) (F : Df K mg "cheapest_telling" sCheapT ["web", "standing", "goal", "weights"]) (O1 : OkC P w K mg base CX0 "need_two" 5 ["web", "standing", "goal"] (spD RNeedTwo)) (O2 : OkC P w K mg base CX0 "need_weights" 3 ["web", "weights"] (spD RNeedWeights))
    (O3 : OkC P w K mg base (L2.CX P w) "need_way" 6 ["web", "standing", "goal"] (spX c RNeedWay XNeedWay)) (O4 : OkC P w K mg base CX0 "telling_in" 3 ["web", "standing", "goal"] (spD RTell)) :
    OkC P w K mg base (L2.CX P w) "cheapest_telling" 7 ["web", "standing", "goal", "weights"] (spX c RCheapT XCheapT) := by
  refine ok_defX F scCheapT (fun ds h => ?_) (fun f cdv A outer s H E vs ds Q hr hv hR => ?_)
  · rcases h with ⟨d, W, S, G, ws, _, _, _, _, _, _, rfl, _⟩ | ⟨W, S, G, ws, _, _, _, _, _, rfl⟩ <;> rfl
  have hall : ∃ (W : List (List Int)) (S G ws : List Int), Wb W ∧ Asc W.length S ∧ Asc W.length G ∧ Wt W.length ws ∧ ds = [dW W, dI S, dI G, dI ws] ∧ ((fitsM W S G = true ∧ tellM W S G ≠ [] ∧ ∀ v H', Ex H H' → Tp H' v (dP (minL (cheapTM W S G ws))) → Q v H') ∨ (fitsM W S G = false ∧ ∀ H', Ex H H' → E (.ref c) none H')) := by
    rcases hR with ⟨d, ⟨W, S, G, ws, hW, hS, hG, hw, hf, hne, rfl, rfl⟩, q⟩ | ⟨⟨W, S, G, ws, hW, hS, hG, hw, hf, rfl⟩, q⟩
    · exact ⟨W, S, G, ws, hW, hS, hG, hw, rfl, .inl ⟨hf, hne, q⟩⟩
    · exact ⟨W, S, G, ws, hW, hS, hG, hw, rfl, .inr ⟨hf, q⟩⟩
  obtain ⟨W, S, G, ws, hW, hS, hG, hw, rfl, q⟩ := hall
  obtain ⟨v1, v2, v3, v4, rfl, t1, t2, t3, t4⟩ := tpA4 hv
  have hn : W.length ≤ 7 := by have := hW.n5; omega
  have hlt := len_tell (W := W) (G := G) hS hn
  refine js_cons (j_expr (jd_call O1 (hr.mono (by decide)) (ja_cons (jd_var 0 t1) (ja_cons (jd_var 1 t2) (ja_cons (jd_var 2 t3) ja_nil))) ⟨W, S, G, hW, hS, hG, rfl, rfl⟩) fun v H1 e1 hv => ?_)
  refine js_cons (j_expr (jd_call O2 (hr.mono (by decide)) (ja_cons (jd_var 0 (t1.ex e1)) (ja_cons (jd_var 3 (t4.ex e1)) ja_nil)) ⟨W, ws, hw, rfl, rfl⟩) fun v H2 e2 hv => ?_)
  have E2 := e1.trans e2
  rcases q with ⟨hf, hne, q⟩ | ⟨hf, q⟩
  · refine js_cons (j_expr (jd_callX O3 (hr.mono (by decide)) takesX (ja_cons (jd_var 0 (t1.ex E2)) (ja_cons (jd_var 1 (t2.ex E2)) (ja_cons (jd_var 2 (t3.ex E2)) ja_nil))) ⟨W, S, G, hW, hS, hG, hf, rfl, rfl⟩) fun v H3 e3 hv => ?_)
    have E3 := E2.trans e3
    refine js_cons (j_setN (i := 4) (ds := []) scCheapT.nd (jn_lst ja_nil) fun l H4 hl4 e4 tl => ?_)
    have hl0 : H l = none := fresh_back E3 hl4
    have E4 := E3.trans e4
    refine js_cons (j_forL (i := 5) (ds := (tellM W S G).map dI) scCheapT.nd (jd_call O4 (hr.mono (by decide)) (ja_cons (jd_var 0 (t1.ex E4)) (ja_cons (jd_var 1 (t2.ex E4)) (ja_cons (jd_var 2 (t3.ex E4)) ja_nil))) ⟨W, S, G, hW, hS, hG, rfl, rfl⟩)
      (fun v j σ' H' => Ex H H' ∧ v ≠ .ref l ∧ Tp H' v (dR (tellM W S G)) ∧ ∃ o5, σ' = [some v1, some v2, some v3, some v4, some (.ref l), o5, none] ∧ Tp H' (.ref l) (dPs (((tellM W S G).take j).map fun r => (sumW ws r, r))))
      (fun v H5 e5 hv => ⟨E4.trans e5, fun z => ?_, hv, none, rfl, tl.ex e5⟩) (fun v j σ' H' p => p.2.2.1) (fun v0 j d v σ' H' hj hv p => ?_) (fun v σ' H' p => ?_) (hp := passes_of rfl))
    · subst z
      have u := Tp.uniq _ _ hv _ (tl.ex e5)
      have u' : (tellM W S G).map dI = [] := PyData.list.inj u
      exact hne (List.map_eq_nil_iff.mp u')
    · obtain ⟨p1, pn, p2, o5, rfl, p3⟩ := p
      obtain ⟨r, hr', rfl⟩ := get_I hj
      have mem : r ∈ tellM W S G := List.mem_of_getElem? hr'
      have aa := asc_sub hS (mem_tell mem)
      have htake : (tellM W S G).take (j + 1) = (tellM W S G).take j ++ [r] := by rw [List.take_add_one, hr']; rfl
      refine js_one (j_append (i := 4) (d := dP (sumW ws r, r)) rfl p3 (jd_tup (ja_cons (jd_sumW (ws := ws) (S := r) rfl B.sum (jd_lcT (i := 6) (l := r) (enc := PyData.int) (f := fun _ => true) (g := fun q => .int (wt ws q)) scCheapT.nd (jd_var 5 hv)
        ⟨fun _ => flt_int _, asc_small aa hn, fun s0 H0 C cl fp b hb v' H'' e'' hv' => pts_yes, fun s0 H0 C cl fp b hb hf v' H'' e'' hv' => jd_wt hw (aa.lt b hb) (jd_var 3 (t4.ex (p1.trans e''))) (jd_var 6 hv')⟩)) (ja_cons (jd_var 5 hv) ja_nil))) (flt_P _) (flt_A_P _) (by rw [List.length_map, List.length_map, List.length_take]; omega) fun H6 km tx tl2 => ?_)
      obtain ⟨va, vxs, rfl, q1, q2⟩ := tp_lst p2
      refine ⟨km.ex hl0 p1, pn, km.lst tx (fun z => pn (by rw [z])) p2 (flt_A_I _), _, rfl, ?_⟩
      rw [htake]
      unfold dPs
      rw [List.map_append, List.map_append]
      exact tl2
    · obtain ⟨p1, pn, p2, o5, rfl, p3⟩ := p
      rw [List.length_map, List.take_length] at p3
      exact js_one (j_ret (jd_minL (R := cheapTM W S G ws) (by simpa [cheapTM] using hne) rfl hr.units B.min (jd_var 4 p3)) fun v H7 e7 hv => q v H7 (p1.trans e7) hv)
  · exact js_cons (j_exprX (jx_callX O3 (hr.mono (by decide)) takesX (ja_cons (jd_var 0 (t1.ex E2)) (ja_cons (jd_var 1 (t2.ex E2)) (ja_cons (jd_var 2 (t3.ex E2)) ja_nil))) ⟨W, S, G, hW, hS, hG, hf, rfl⟩ fun H' e' => q H' (E2.trans e')))
end
end TJ
set_option Elab.async false
set_option linter.all false
set_option maxRecDepth 100000
set_option maxHeartbeats 4000000
namespace TJ
open PySem PySem.Spec PyProof.Rows L2
open Evl (Ex fresh_back)
/-! ### keys -/
def kI (l : List Int) : List L2.Key := l.map Sum.inl
theorem kI_map (l : List Int) : (kI l).map kV = l.map V.int := by
  unfold kI
  rw [List.map_map]
  rfl
theorem kI_inj : ∀ {l m : List Int}, kI l = kI m → l = m
  | [], [], _ => rfl
  | [], _ :: _, h => by cases h
  | _ :: _, [], h => by cases h
  | x :: l, y :: m, h => by
    have h' : (Sum.inl x : L2.Key) :: kI l = Sum.inl y :: kI m := h
    injection h' with h1 h2
    injection h1 with h1
    rw [h1, kI_inj h2]
theorem tp_key {H : Hp} {v : V} {l : List Int} (h : Tp H v (dI l)) : ∃ a, v = .ref a ∧ H a = some (.tup ((kI l).map kV)) := by
  obtain ⟨a, xs, rfl, h1, h2⟩ := tp_tup h
  exact ⟨a, rfl, by rw [kI_map, ← h2.ints]; exact h1⟩
theorem key_tp {H : Hp} {a : Addr} {l : List Int} (h : H a = some (.tup ((kI l).map kV))) : Tp H (.ref a) (dI l) := by
  rw [kI_map] at h
  exact .tup h (tpA_ints l)
/-- a dict whose keys are the tuples L -/
def Keys (kvs : List (List L2.Key × V)) (L : List (List Int)) : Prop := kvs.map (·.1) = L.map kI
theorem Keys.has {kvs : List (List L2.Key × V)} {L : List (List Int)} (h : Keys kvs L) (l : List Int) : (valV kvs (kI l)).isSome = decide (l ∈ L) := by
  rw [← valV_any]
  have e1 : (kvs.any fun kv => decide (kv.1 = kI l)) = (kvs.map (·.1)).any fun k => decide (k = kI l) := by rw [List.any_map]; rfl
  rw [e1, h, List.any_map]
  by_cases hl : l ∈ L
  · rw [decide_eq_true hl, List.any_eq_true]
    exact ⟨l, hl, by simp⟩
  · rw [decide_eq_false hl, Bool.eq_false_iff]
    intro hh
    obtain ⟨m, hm, e⟩ := List.any_eq_true.mp hh
    have e2 : kI m = kI l := by simpa using e
    exact hl (kI_inj e2 ▸ hm)
theorem Keys.put {kvs : List (List L2.Key × V)} {L : List (List Int)} {l : List Int} {v : V} (h : Keys kvs L) (n : l ∉ L) : Keys (putK kvs (kI l) v) (L ++ [l]) := by
  have q := h.has l
  rw [decide_eq_false n] at q
  rw [putK_new v (Option.not_isSome_iff_eq_none.mp (by simp [q]))]
  unfold Keys at *
  rw [List.map_append, List.map_append, h]
  rfl
theorem Keys.len {kvs : List (List L2.Key × V)} {L : List (List Int)} (h : Keys kvs L) : kvs.length = L.length := by
  have := congrArg List.length h
  simpa using this
section
variable {X : Cx} {e a b c : Expr} {es : List Expr} {σ : L2.St} {H : Hp} {pos p : Pos} {x : Str} {D : Ends}
/-! ### {k: v}, k a tuple -/
def tDisp1 (tk tv : TE) : TE := fun σ H Q => ∀ p, H p = none → tPairs [(tk, tv)] σ (upd H p (.dT [])) fun ps H2 => H2 p = some (.dT []) ∧ ∃ (b : Addr) (k : List L2.Key) (y : V), ps = [(.ref b, y)] ∧ H2 b = some (.tup (k.map kV)) ∧ Q (.ref p) (upd H2 p (.dT [(k, y)]))
theorem pe_disp1 {k v : Expr} {tk tv : TE} (hu : X.A.units + 1 < cLine) (hk : PE X k tk) (hv : PE X v tv) : PE X (.Dict [some k] [v] pos) (tDisp1 tk tv) := by
  refine ⟨fun pins s σ H Q I q => ?_⟩
  have hn := I.hok.fresh (Nat.le_refl s.heap.objs.size)
  have I1 := I.laid (a := s.heap.objs.size) (o := .dT []) (h' := s.heap.push { cls := .type "dict", data := .dict #[] }) (t' := s.toks) (fun _ _ q => Heap.get?_push_of_some _ q) (Nat.le_refl _) (dt_empty s.heap I.big)
  have hlen := pairTrees_length [some k] [v] X.env pos rfl rfl
  rw [arm_eval_Dict, zip_pairTrees [some k] [v] X.env pos rfl rfl, dictDisplay_pairs (pairTrees [some k] [v] X.env pos) (fun z => by rw [z] at hlen; simp at hlen) (by rw [hlen]; exact (by decide : 1 < 17))]
  refine wpAny_bind (wpAny_standAt (wpAny_bind (wpAny_subDictH (knd := tupleKind (mixKind X.prog X.w)) (Q := fun d s' => wpAny (model X.prog X.w) X.A (pure (Value.ref d)) (EP X pins σ Q) X.xe s') (show (tupleKind (mixKind X.prog X.w)).room X.A from ?_) (by rw [hlen]; exact (by decide : 1 ≤ 15))
    (thn ((pps_cons hk hv (pps_nil (pos := pos))).run pins _ σ _ _ I1 (q _ hn)) fun ws s2 ⟨ps, H2, I2, rel, e, b, kk, y, ep, hb, q2⟩ => ?_))))
  · exact Nat.lt_of_le_of_lt (Nat.le_succ _) hu
  subst ep
  obtain ⟨u, rfl, ru, ry⟩ : ∃ u : Value × Value, ws = [u] ∧ RelV (.ref b) u.1 ∧ RelV y u.2 := by
    cases rel with
    | cons h1 h2 => cases h2; exact ⟨_, rfl, h1.1, h1.2⟩
  obtain ⟨z, hd, xs, rel', dd⟩ := dt_of I2.hok e
  cases rel'
  obtain ⟨u1, u2⟩ := u
  cases (show u1 = Value.ref b from ru)
  refine ⟨[(kk, b, u2)], ⟨rfl, rfl, key_of I2.hok hb, trivial⟩, dd, fun h' tk dd' hs => wpAny_pure ⟨.ref s.heap.objs.size, _, ?_, rfl, q2⟩⟩
  obtain ⟨o, es, ep, hq, h2, h3, h4, _, h5⟩ := dd'
  refine d_write I2 (by rw [e]; exact True.intro) hs ⟨o, hq⟩ ⟨by show 1 ≤ sizeLine; decide, hd, _, .cons ⟨rfl, ?_, ry⟩ .nil, o, es, ep, hq, h2, h3, h4, h5⟩
  rw [upd_ne (ne_of hb e (fun z => nomatch z))]
  exact hb
/-- a new dict -/
def tDN (σ : L2.St) (H : Hp) (kvs : List (List L2.Key × V)) : TE := fun σ' H1 Q => σ' = σ ∧ Ex H H1 ∧ ∀ p H2, H1 p = none → Ex H1 H2 → H2 p = some (.dT kvs) → Q (.ref p) H2
theorem jn_disp1 {l : List Int} {n : Int} (hu : X.A.units + 64 < cLine) (ha : JD X a σ H (dI l)) (hb : JD X b σ H (.int n)) : PE X (.Dict [some a] [b] pos) (tDN σ H [(kI l, .int n)]) := PE.cq (pe_disp1 (by omega) ha hb) fun σ' H1 Q q => by
  obtain ⟨rfl, e1, q⟩ := q
  intro p hp
  have ep : Ex H1 (upd H1 p (.dT [])) := Ex.nw hp
  refine ⟨rfl, e1.trans ep, fun v H2 e2 hv => ⟨rfl, e1.trans (ep.trans e2), fun u H3 e3 hu3 => ?_⟩⟩
  have hD : H3 p = some (.dT []) := e3 _ _ (e2 _ _ upd_same)
  obtain ⟨t, rfl, ht⟩ := tp_key (hv.ex e3)
  rw [tp_int hu3]
  exact ⟨hD, t, kI l, _, rfl, ht, q p _ hp (Evl.Ex.mut ((ep.trans e2).trans e3) hp) upd_same⟩
theorem jn_dict0 : PE X (.Dict [] [] pos) (tDN σ H []) := PE.cq pe_dnewT fun σ' H1 Q q => by
  obtain ⟨rfl, e1, q⟩ := q
  exact fun p hp => q p _ hp (Ex.nw hp) upd_same
/-! ### reading -/
theorem jt_dnotin {kvs : List (List L2.Key × V)} {L : List (List Int)} {l : List Int} {d : Addr} (hK : Keys kvs L) (hu : X.A.units + 64 < cLine) (ha : JD X a σ H (dI l)) (hb : JV X b σ H (.ref d)) (hd : H d = some (.dT kvs)) (hm : behindInMarks .NotIn b = false := by rfl) :
    JT X (.Compare a [.NotIn] [b] pos) σ H (!decide (l ∈ L)) := PT.cq (pt_cmp (pc_dnotin (by omega) ha hb) hm) fun σ' H1 Q q => by
  obtain ⟨rfl, e1, q⟩ := q
  refine ⟨rfl, e1, fun v H2 e2 hv => ⟨rfl, e1.trans e2, fun u H3 e3 hu3 => ?_⟩⟩
  subst hu3
  obtain ⟨t, rfl, ht⟩ := tp_key (hv.ex e3)
  exact ⟨d, _, rfl, DGet.t (((e1.trans e2).trans e3) _ _ hd) ht, _, rfl, by rw [hK.has l]; exact q _ (e2.trans e3)⟩
theorem jt_din {kvs : List (List L2.Key × V)} {L : List (List Int)} {l : List Int} {d : Addr} (hK : Keys kvs L) (hu : X.A.units + 64 < cLine) (ha : JD X a σ H (dI l)) (hb : JV X b σ H (.ref d)) (hd : H d = some (.dT kvs)) (hm : behindInMarks .In b = false := by rfl) :
    JT X (.Compare a [.In] [b] pos) σ H (decide (l ∈ L)) := PT.cq (pt_cmp (pc_din (by omega) ha hb) hm) fun σ' H1 Q q => by
  obtain ⟨rfl, e1, q⟩ := q
  refine ⟨rfl, e1, fun v H2 e2 hv => ⟨rfl, e1.trans e2, fun u H3 e3 hu3 => ?_⟩⟩
  subst hu3
  obtain ⟨t, rfl, ht⟩ := tp_key (hv.ex e3)
  exact ⟨d, _, rfl, DGet.t (((e1.trans e2).trans e3) _ _ hd) ht, _, rfl, by rw [hK.has l]; exact q _ (e2.trans e3)⟩
/-- d[k] -/
theorem jd_dget {kvs : List (List L2.Key × V)} {l : List Int} {d : Addr} {dv : PyData} (hu : X.A.units + 64 < cLine) (ha : JV X a σ H (.ref d)) (hb : JD X b σ H (dI l)) (hd : H d = some (.dT kvs)) (hv : ∃ v, valV kvs (kI l) = some v ∧ Tp H v dv) (hs : NoSl b := by exact fun _ _ => rfl) :
    JD X (.Subscript a b pos) σ H dv := PE.cq (pe_dget (by omega) ha hb hs) fun σ' H1 Q q => by
  obtain ⟨rfl, e1, q⟩ := q
  obtain ⟨v, h1, h2⟩ := hv
  refine ⟨rfl, e1, fun u H2 e2 hu2 => ⟨rfl, e1.trans e2, fun y H3 e3 hy => ?_⟩⟩
  subst hu2
  obtain ⟨t, rfl, ht⟩ := tp_key hy
  exact ⟨d, v, rfl, by rw [← h1]; exact DGet.t (((e1.trans e2).trans e3) _ _ hd) ht, q _ _ (e2.trans e3) (h2.ex ((e1.trans e2).trans e3))⟩
/-- d[k] = v -/
theorem j_dput {kvs : List (List L2.Key × V)} {l : List Int} {d : Addr} {dv : PyData} {pos' : Pos} (hu : X.A.units + 64 < cLine) (ha : JV X a σ H (.ref d)) (hb : JD X b σ H (dI l)) (hv : JD X e σ H dv) (hd : H d = some (.dT kvs)) (hl : kvs.length < 1000)
    (k : ∀ v H1, Ex H H1 → Tp H1 v dv → D.nx σ (upd H1 d (.dT (putK kvs (kI l) v)))) (hs : swapsWith e (some (.Subscript a b pos')) pos.line X.env = pure false := by rfl) : J1 X (.Assign [.Subscript a b pos'] e pos) σ H D :=
  PS.cq (ps_dput (by omega) ha hb hv hs) fun D' σ' H' q => by
    obtain ⟨rfl, rfl, rfl⟩ := q
    refine ⟨rfl, Ex.refl _, fun v H1 e1 hv => ⟨rfl, e1, fun u H2 e2 hu2 => ⟨rfl, e1.trans e2, fun y H3 e3 hy => ?_⟩⟩⟩
    subst hu2
    obtain ⟨t, rfl, ht⟩ := tp_key hy
    exact ⟨d, _, rfl, DPut.t (((e1.trans e2).trans e3) _ _ hd) ht (sz2 (by omega)), k v H3 ((e1.trans e2).trans e3) (hv.ex (e2.trans e3))⟩
/-- list(d) -/
theorem jd_listD {kvs : List (List L2.Key × V)} {L : List (List Int)} {d : Addr} (hK : Keys kvs L) (hc : X.calm = true) (hm : X.mg "list" = none) (ha : JV X a σ H (.ref d)) (hd : H d = some (.dT kvs)) (hg : Gl X "list" := by rfl) (he : starEach [a] X.env = (false, eval a X.env) :: starEach [] X.env := by rfl) :
    JD X (.Call (.Name "list" p) [a] [] pos) σ H (dR L) := PE.cq (pe_callTy (call_list_dT hc) hg hm bt_list (pa_cons ha pa_nil he) (by decide) (by decide) he (by rfl)) fun σ' H1 Q q => by
  obtain ⟨rfl, e1, q⟩ := q
  refine ⟨rfl, e1, fun v H2 e2 hv => ?_⟩
  subst hv
  refine ⟨d, kvs, rfl, Rd.of ((e1.trans e2) _ _ hd), fun p bs hp hbs => ?_⟩
  refine q _ _ (e2.trans (Ex.nw hp)) (.lst upd_same ?_)
  have key2 : ∀ {kvs : List (List L2.Key × V)} {bs : List Addr}, IsKeys H2 kvs bs → ∀ {L : List (List Int)}, Keys kvs L → TpA H2 (bs.map V.ref) (L.map dI) := by
    intro kvs bs h
    induction h with
    | nil =>
      intro L hL
      cases L with
      | nil => exact .nil
      | cons l L => cases hL
    | cons h1 h2 ih =>
      intro L hL
      cases L with
      | nil => cases hL
      | cons l L =>
        rename_i pp bb kk bbs
        have hL' : pp.1 :: kk.map (·.1) = kI l :: L.map kI := hL
        injection hL' with e1 e2
        rw [e1] at h1
        exact .cons (key_tp h1) (ih e2)
  exact (key2 hbs hK).ex (Ex.nw hp)
/-! ### for k in d, d a new dict -/
def iKeysF (td : TE) : TI := fun σ H R => td σ H fun x H1 => ∃ d kvs, x = .ref d ∧ H1 d = some (.dT kvs) ∧ ∀ o, R (Itkt d o kvs) (upd H1 d (.frz o (.dT kvs)))
theorem pi_keysF {tg : Expr} {td : TE} (he : PE X e td) : PI X tg e (iKeysF td) := by
  refine ⟨fun pins s σ H R I h => ?_⟩
  refine thn (he.run pins s σ H _ I h) fun u s1 ⟨x, H1, I1, rx, d, kvs, ex, hd, q⟩ => ?_
  subst ex
  obtain rfl : u = Value.ref d := rx
  obtain ⟨od, I2⟩ := I1.lock hd True.intro
  obtain ⟨hs, hgd, hx, es, ep, hdt, hsz, ent⟩ := I2.frzT upd_same
  refine iter_keys hs hgd hx hdt (pi_one (tk := s1.toks) I2 _ (turn_keysT _ hdt) ⟨_, Heap.get?_push_size _ rfl, rfl, ?_⟩ (q od))
  rw [hsz] <;> rfl
/-- the value of an expression: a new dict with the keys L -/
def tKs (σ : L2.St) (H : Hp) (L : List (List Int)) : TE := fun σ' H1 Q => σ' = σ ∧ Ex H H1 ∧ ∀ d kvs H2, H1 d = none → Ex H1 H2 → H2 d = some (.dT kvs) → Keys kvs L → Q (.ref d) H2
theorem lc_readK {l : List (List Int)} {f : List Int → Bool} {g : List Int → PyData} {i : Nat} (hl : l.length ≤ 1000) (hg : ∀ a, flt (g a) = true) {σ' : L2.St} {H1 : Hp} {Q : VK} (q : tD σ H (.list ((l.filter f).map g)) σ' H1 Q) :
    tLc (iKeysF (tKs σ H l)) (gName i) (ttF i σ H l dI f) (teF i σ H l dI f g) [i] σ' H1 Q := by
  obtain ⟨rfl, e1, q⟩ := q
  refine ⟨rfl, e1, fun d kvs H2 n2 e2 hd hK => ⟨d, kvs, rfl, hd, fun o D hD => ?_⟩⟩
  have e2' : Ex H1 (upd H2 d (.frz o (.dT kvs))) := Evl.Ex.mut e2 n2
  have wk : Walk (Itkt d o kvs) l.length (fun H => H d = some (.frz o (.dT kvs))) (fun j H v H' => H' = H ∧ ∃ (a : Addr) (r : List Int), l[j]? = some r ∧ v = .ref a ∧ Tp H (.ref a) (dI r)) := by
    have hlen := hK.len
    refine ⟨fun j H hj h => ⟨h, by omega⟩, fun H h => ⟨h, by omega⟩, fun j H x H' hj h y => ?_⟩
    obtain ⟨eH, k, v, q0, h1, h2, h3⟩ := y
    refine ⟨eH, q0, l[j], by simp [hj], h2, key_tp ?_⟩
    have e3 : (kvs.map (·.1))[j]? = some k := by rw [List.getElem?_map, h1]; rfl
    rw [hK, List.getElem?_map, List.getElem?_eq_getElem hj] at e3
    have e4 : kI l[j] = k := Option.some.inj e3
    rw [e4]
    exact h3
  refine lc_it wk (LcP (upd H2 d (.frz o (.dT kvs))) D l f g) (LcP.start hD) (fun j H' _ p => p.2.1 d _ upd_same) (fun j y H' H'' hj p hY => ⟨wipe1 _ _ _, ?_⟩) (fun H' p => ?_)
  · obtain ⟨rfl, a, r, hr, rfl, ht⟩ := hY
    have mem : r ∈ l := List.mem_of_getElem? hr
    have ex1 : Ex H H'' := (e1.trans e2').trans p.2.1
    exact lc_turn hl hg hr p (fun Q hQ => ⟨⟨r, .ref a, H'', mem, ex1, ht⟩, rfl, Ex.refl _, hQ⟩) (fun hf H3 Q e3 hQ => ⟨⟨⟨r, .ref a, H'', mem, ex1, ht⟩, hf⟩, rfl, e3, hQ⟩)
  · obtain ⟨z1, z2⟩ := LcP.fin (H0 := H) p
    exact q _ _ (e2'.trans z1) z2
/-- [elt for y in d if ..], d a new dict -/
theorem jd_lcK {elt iter : Expr} {ifs : List Expr} {scope : Scope} {y : Str} {py : Pos} {i : Nat} {l : List (List Int)} {f : List Int → Bool} {g : List Int → PyData} (nd : X.N.Nodup) (hi : PE X iter (tKs σ H l)) (L : LcOk X elt ifs scope i σ H l dI f g)
    (hc : X.calm = true := by rfl) (ok : blkC X.N X.env.scope scope [(y, i)] = true := by kernel_rfl) (hN : X.N[i]? = some y := by rfl) (hy : ∀ C cl, Loc (compEnvC scope cl C X.env).scope y := by first | (intros; exact Or.inl rfl) | (intros; exact Or.inr rfl)) (hyf : ∀ s0 H0 C cl fp, (X.blk s0 H0 scope (compEnvC scope cl C X.env) fp).fn y = true ∨ (compEnvC scope cl C X.env).scope.names.lookup y = some .local := by first | (intros; exact Or.inr rfl) | (intros; exact Or.inl rfl)) (hs : ∀ x, foldedSetIterable iter X.env x = pure x := by intro _; rfl) :
    JD X (.ListComp elt [⟨.Name y py, iter, ifs, 0⟩] scope pos) σ H (.list ((l.filter f).map g)) :=
  PE.cq (pe_lc (own := [(y, i)]) (g := gName i) hc nd (pi_keysF hi) (blkOk_by ok) (fun s0 H0 C cl fp => pg_name nd hN (hy C cl) (hyf s0 H0 C cl fp)) (fun s0 H0 C cl fp => lc_tests L s0 H0 C cl fp) (fun s0 H0 C cl fp => lc_elts L s0 H0 C cl fp) hs) fun σ' H1 Q q => lc_readK L.len L.ft q
/-! ### while -/
structure Wz (X : Cx) (c : Expr) (body : List Stmt) (D : Ends) (Pv : Nat → L2.St → Hp → Prop) where
  m : Nat
  σ' : L2.St
  H' : Hp
  b : Bool
  jt : JT X c σ' H' b
  tr : b = true → ∀ H1, Ex H' H1 → JS X body σ' H1 { D with nx := fun s h => ∃ m', m' < m ∧ Pv m' s h, ct := fun s h => ∃ m', m' < m ∧ Pv m' s h, bk := D.nx }
theorem j_while {body : List Stmt} (Pv : Nat → L2.St → Hp → Prop) (m0 : Nat) (h0 : Pv m0 σ H)
    (hs : ∀ m σ' H', Pv m σ' H' → ∃ b, JT X c σ' H' b ∧ (b = true → ∀ H1, Ex H' H1 → JS X body σ' H1 { D with nx := fun s h => ∃ m', m' < m ∧ Pv m' s h, ct := fun s h => ∃ m', m' < m ∧ Pv m' s h, bk := D.nx }) ∧ (b = false → ∀ H1, Ex H' H1 → D.nx σ' H1))
    (hp : PassesOwn (model X.prog X.w) X.A X.env X.xe := by exact PassesOwn.never) : J1 X (.While c body [] pos) σ H D := by
  refine PS.cq (ps_while (tc := fun σ2 H2 Q => ∃ z : Wz X c body D Pv, tT z.σ' z.H' z.b σ2 H2 Q)
    (tb := fun D' σ2 H2 => ∃ (z : Wz X c body D Pv) (H1 : Hp) (hb : z.b = true) (e : Ex z.H' H1), tS z.σ' H1 { D with nx := fun s h => ∃ m', m' < z.m ∧ Pv m' s h, ct := fun s h => ∃ m', m' < z.m ∧ Pv m' s h, bk := D.nx } D' σ2 H2) hp (PT.fam fun z => z.jt)
    (PSs.fam fun z => PSs.fam fun H1 => PSs.fam fun hb => PSs.fam fun e => z.tr hb H1 e)) fun D' σ' H' q => ?_
  obtain ⟨rfl, rfl, rfl⟩ := q
  refine ⟨Pv, ⟨m0, h0⟩, fun m σ2 H2 w => ?_⟩
  obtain ⟨b, j1, j2, j3⟩ := hs m σ2 H2 w
  refine ⟨⟨m, σ2, H2, b, j1, j2⟩, rfl, Ex.refl _, fun H3 e3 => ?_⟩
  cases b with
  | true => exact iteT ⟨fun s h => ∃ m', m' < m ∧ Pv m' s h, fun s h z => z, ⟨m, σ2, H2, true, j1, j2⟩, H3, rfl, e3, rfl, rfl, rfl⟩
  | false => exact iteF (j3 rfl H3 e3)
/-! ### data -/
theorem eqv_R0 (L : List (List Int)) : PyData.eqv (dR L) (.list []) = decide (L = []) := by
  unfold dR
  rw [PyData.eqv]
  cases L with
  | nil => simp [PyData.eqvAll]
  | cons x L => simp [PyData.eqvAll]
theorem lay_R : ∀ L : List (List Int), PyData.canLayAll0 (L.map dI) = true
  | [] => by simp [PyData.canLayAll0]
  | x :: l => by
    show PyData.canLayAll0 (dI x :: l.map dI) = true
    rw [PyData.canLayAll0, lay_R l]
    unfold dI
    rw [PyData.canLay0, lay_ints]
    rfl
theorem dep_R : ∀ L : List (List Int), PyData.depthAll (L.map dI) ≤ 1
  | [] => by simp [PyData.depthAll]
  | x :: l => by
    show PyData.depthAll (dI x :: l.map dI) ≤ 1
    rw [PyData.depthAll]
    unfold dI
    rw [PyData.depth, dep_ints]
    have := dep_R l
    unfold dI at this
    omega
theorem shp_R (L : List (List Int)) : SeqAt.shaped (dR L) = true := by
  unfold SeqAt.shaped dR
  rw [PyData.canLay0, lay_R, PyData.depth]
  have := dep_R L
  rw [Bool.true_and, decide_eq_true_eq]
  omega
theorem shp_0 : SeqAt.shaped (.list []) = true := shp_L []
/-! ### x, y = a, b and x, y, z = a, b, c -/
theorem j_par3 {y1 y2 y3 : Str} {py1 py2 py3 pt pt2 : Pos} {kt k2 i1 i2 i3 : Nat} {kvs : List (List L2.Key × V)} {ds : List PyData} {d3 : PyData} (nd : X.N.Nodup) (h1 : PE X a (tDN σ H kvs)) (h2 : JN X b σ H ds) (h3 : JD X c σ H d3)
    (k : ∀ p q v H1, H p = none → H q = none → p ≠ q → Ex H H1 → H1 p = some (.dT kvs) → Tp H1 (.ref q) (.list ds) → Tp H1 v d3 → D.nx (((σ.set i1 (some (.ref p))).set i2 (some (.ref q))).set i3 (some v)) H1)
    (hN1 : X.N[i1]? = some y1 := by rfl) (hN2 : X.N[i2]? = some y2 := by rfl) (hN3 : X.N[i3]? = some y3 := by rfl) (h12 : i1 ≠ i2 := by decide) (h13 : i1 ≠ i3 := by decide) (h23 : i2 ≠ i3 := by decide)
    (hl1 : X.env.scope.names.lookup y1 = some .local := by rfl) (hl2 : X.env.scope.names.lookup y2 = some .local := by rfl) (hl3 : X.env.scope.names.lookup y3 = some .local := by rfl)
    (hw : swappedStores [.Tuple [.Name y1 py1, .Name y2 py2, .Name y3 py3] kt pt] (.Tuple [a, b, c] k2 pt2) X.env = pure (some [y1, y2, y3]) := by rfl)
    (hs : swapsWithSole [.Tuple [.Name y1 py1, .Name y2 py2, .Name y3 py3] kt pt] (.Tuple [a, b, c] k2 pt2) pos.line X.env = pure false := by rfl) (hc : X.calm = true := by rfl)
    (he1 : starEach [a, b, c] X.env = (false, eval a X.env) :: starEach [b, c] X.env := by rfl) (he2 : starEach [b, c] X.env = (false, eval b X.env) :: starEach [c] X.env := by rfl) (he3 : starEach [c] X.env = (false, eval c X.env) :: starEach [] X.env := by rfl) :
    J1 X (.Assign [.Tuple [.Name y1 py1, .Name y2 py2, .Name y3 py3] kt pt] (.Tuple [a, b, c] k2 pt2) pos) σ H D :=
  PS.cq (ps_par3 hc nd hN1 hN2 hN3 h12 h13 h23 hl1 hl2 hl3 (pa_cons h1 (pa_cons h2 (pa_cons h3 pa_nil he3) he2) he1) hw hs) fun D' σ' H' q => by
    obtain ⟨rfl, rfl, rfl⟩ := q
    refine ⟨rfl, Ex.refl _, fun p H1 np e1 hp => ⟨rfl, e1, fun q H2 nq e2 hq => ⟨rfl, e1.trans e2, fun v H3 e3 hv => ?_⟩⟩⟩
    refine ⟨_, _, _, rfl, k p q v H3 np (fresh_back e1 nq) ?_ ((e1.trans e2).trans e3) (e3 _ _ (e2 _ _ hp)) (hq.ex e3) hv⟩
    rintro rfl
    rw [hp] at nq
    cases nq
/-- x, y = a, [..] -/
theorem j_parN {y1 y2 : Str} {py1 py2 pt pt2 : Pos} {kt k2 i1 i2 : Nat} {ds : List PyData} {d1 : PyData} (nd : X.N.Nodup) (h1 : JD X a σ H d1) (h2 : JN X b σ H ds)
    (k : ∀ v q H1, H q = none → Ex H H1 → Tp H1 v d1 → Tp H1 (.ref q) (.list ds) → D.nx ((σ.set i1 (some v)).set i2 (some (.ref q))) H1)
    (hN1 : X.N[i1]? = some y1 := by rfl) (hN2 : X.N[i2]? = some y2 := by rfl) (h12 : i1 ≠ i2 := by decide)
    (hl1 : X.env.scope.names.lookup y1 = some .local := by rfl) (hl2 : X.env.scope.names.lookup y2 = some .local := by rfl)
    (hw : swappedStores [.Tuple [.Name y1 py1, .Name y2 py2] kt pt] (.Tuple [a, b] k2 pt2) X.env = pure (some [y1, y2]) := by rfl)
    (hs : swapsWithSole [.Tuple [.Name y1 py1, .Name y2 py2] kt pt] (.Tuple [a, b] k2 pt2) pos.line X.env = pure false := by rfl) (hc : X.calm = true := by rfl)
    (he1 : starEach [a, b] X.env = (false, eval a X.env) :: starEach [b] X.env := by rfl) (he2 : starEach [b] X.env = (false, eval b X.env) :: starEach [] X.env := by rfl) :
    J1 X (.Assign [.Tuple [.Name y1 py1, .Name y2 py2] kt pt] (.Tuple [a, b] k2 pt2) pos) σ H D :=
  PS.cq (ps_par hc nd hN1 hN2 h12 hl1 hl2 (pa_cons h1 (pa_cons h2 pa_nil he2) he1) hw hs) fun D' σ' H' q => by
    obtain ⟨rfl, rfl, rfl⟩ := q
    exact ⟨rfl, Ex.refl _, fun v H1 e1 hv => ⟨rfl, e1, fun q H2 nq e2 hq => ⟨_, _, rfl, k v q H2 (fresh_back e1 nq) (e1.trans e2) (hv.ex e2) hq⟩⟩⟩
end
end TJ
set_option Elab.async false
set_option linter.all false
set_option maxRecDepth 100000
set_option maxHeartbeats 4000000
namespace TJ
open PySem PySem.Spec PyProof.Rows L2
/-! ### the search, in plain words -/
abbrev SS : Type := List (List Int) × List (List Int)
/-- one call tried -/
def stepM (W : List (List Int)) (here : List Int) (s : SS) (p : Int) : SS := if callM W here p ∈ s.1 then s else (s.1 ++ [callM W here p], s.2 ++ [callM W here p])
def roundM (W : List (List Int)) (s : SS) (here : List Int) : SS := (moversM W here).foldl (stepM W here) s
def layerM (W : List (List Int)) (K last : List (List Int)) : SS := last.foldl (roundM W) (K, [])
def searchM (W : List (List Int)) : Nat → List (List Int) → List (List Int) → List (List Int)
  | 0, K, _ => K
  | n + 1, K, last => if last = [] then K else searchM W n (layerM W K last).1 (layerM W K last).2
/-- all that can be left standing -/
def foundM (W : List (List Int)) (S : List Int) : List (List Int) := searchM W (S.length + 1) [S] [S]
theorem search_nil (W : List (List Int)) (n : Nat) (K : List (List Int)) : searchM W n K [] = K := by
  cases n with
  | zero => rfl
  | succ n => rw [searchM, if_pos rfl]
theorem fold_take {α β : Type} {f : β → α → β} {l : List α} {j : Nat} {a : α} {s : β} (h : l[j]? = some a) : (l.take (j + 1)).foldl f s = f ((l.take j).foldl f s) a := by
  have e : l.take (j + 1) = l.take j ++ [a] := by rw [List.take_add_one, h]; rfl
  rw [e, List.foldl_append]
  rfl
theorem call_sub (W : List (List Int)) (S : List Int) (p : Int) : (callM W S p).Sublist S := by
  unfold callM
  split
  · exact List.filter_sublist
  · exact List.Sublist.refl _
theorem mem_movers {W : List (List Int)} {S : List Int} {p : Int} : p ∈ moversM W S ↔ p ∈ S ∧ ∃ o, o ∈ fr W p ∧ o < p ∧ o ∈ S := by
  unfold moversM lowF
  rw [List.mem_filter, List.any_eq_true]
  constructor
  · rintro ⟨h1, o, h2, h3⟩
    rw [Bool.and_eq_true, decide_eq_true_eq, decide_eq_true_eq] at h3
    exact ⟨h1, o, h2, h3.1, h3.2⟩
  · rintro ⟨h1, o, h2, h3, h4⟩
    exact ⟨h1, o, h2, by rw [Bool.and_eq_true, decide_eq_true_eq, decide_eq_true_eq]; exact ⟨h3, h4⟩⟩
theorem mem_call {W : List (List Int)} {S : List Int} {p q : Int} (hp : p ∈ S) : q ∈ callM W S p ↔ q ∈ S ∧ (p ≤ q ∨ q ∉ fr W p) := by
  unfold callM
  rw [if_pos hp, List.mem_filter, Bool.or_eq_true, decide_eq_true_eq, Bool.not_eq_true', decide_eq_false_iff_not]
theorem call_lt {W : List (List Int)} {S : List Int} {p : Int} (h : p ∈ moversM W S) : (callM W S p).length < S.length := by
  obtain ⟨h1, o, h2, h3, h4⟩ := mem_movers.mp h
  have hs := call_sub W S p
  rcases Nat.lt_or_ge (callM W S p).length S.length with h | h
  · exact h
  · have e := hs.eq_of_length_le h
    have ho : o ∈ callM W S p := by rw [e]; exact h4
    rcases ((mem_call h1).mp ho).2 with z | z
    · omega
    · exact absurd h2 z
theorem nodup_len : ∀ {K C : List (List Int)}, K.Nodup → (∀ k ∈ K, k ∈ C) → K.length ≤ C.length
  | [], _, _, _ => Nat.zero_le _
  | k :: K, C, h, hs => by
    obtain ⟨h1, h2⟩ := List.nodup_cons.mp h
    have hk := hs k List.mem_cons_self
    have q := nodup_len (K := K) (C := C.erase k) h2 fun x hx => by
      have hne : x ≠ k := fun z => h1 (z ▸ hx)
      exact (List.mem_erase_of_ne hne).mpr (hs x (List.mem_cons_of_mem _ hx))
    rw [List.length_erase_of_mem hk] at q
    have : 0 < C.length := List.length_pos_of_mem hk
    rw [List.length_cons]
    omega
/-- a state of the search from S -/
structure Gd (S : List Int) (m : Nat) (s : SS) : Prop where
  nd : s.1.Nodup
  sub : ∀ k ∈ s.1, k.Sublist S
  fl : s.2.length ≤ s.1.length
  fs : ∀ f ∈ s.2, f.Sublist S ∧ f.length < m
theorem Gd.small {S : List Int} {m : Nat} {s : SS} {n : Nat} (g : Gd S m s) (h : Asc n S) (hn : n ≤ 7) : s.1.length ≤ 128 := by
  have h1 := choices_small h hn
  have h2 := nodup_len g.nd fun k hk => (mem_choices S k).mpr (g.sub k hk)
  omega
theorem Gd.step {W : List (List Int)} {S here : List Int} {m : Nat} {s : SS} {p : Int} (g : Gd S m s) (hs : here.Sublist S) (hm : here.length ≤ m) (hp : p ∈ moversM W here) : Gd S m (stepM W here s p) := by
  unfold stepM
  split
  · exact g
  · rename_i hn
    have h1 := (call_sub W here p).trans hs
    have h2 := call_lt hp
    refine ⟨List.nodup_append.mpr ⟨g.nd, by simp, fun a ha b hb => ?_⟩, fun k hk => ?_, ?_, fun f hf => ?_⟩
    · rw [List.mem_singleton.mp hb]
      exact fun z => hn (z ▸ ha)
    · rcases List.mem_append.mp hk with hk | hk
      · exact g.sub k hk
      · rw [List.mem_singleton.mp hk]; exact h1
    · have := g.fl
      rw [List.length_append, List.length_append]
      simp
      exact this
    · rcases List.mem_append.mp hf with hf | hf
      · exact g.fs f hf
      · rw [List.mem_singleton.mp hf]; exact ⟨h1, by omega⟩
theorem Gd.steps {W : List (List Int)} {S here : List Int} {m : Nat} (hs : here.Sublist S) (hm : here.length ≤ m) : ∀ (ps : List Int) {s : SS}, (∀ p ∈ ps, p ∈ moversM W here) → Gd S m s → Gd S m (ps.foldl (stepM W here) s)
  | [], _, _, g => g
  | p :: ps, s, h, g => Gd.steps hs hm ps (fun q hq => h q (List.mem_cons_of_mem _ hq)) (g.step hs hm (h p List.mem_cons_self))
theorem Gd.rounds {W : List (List Int)} {S : List Int} {m : Nat} : ∀ (L : List (List Int)) {s : SS}, (∀ f ∈ L, f.Sublist S ∧ f.length ≤ m) → Gd S m s → Gd S m (L.foldl (roundM W) s)
  | [], _, _, g => g
  | f :: L, s, h, g => Gd.rounds L (fun q hq => h q (List.mem_cons_of_mem _ hq)) (Gd.steps (h f List.mem_cons_self).1 (h f List.mem_cons_self).2 _ (fun _ z => z) g)
theorem mem_take {α : Type} {l : List α} {j : Nat} {a : α} (h : a ∈ l.take j) : a ∈ l := (List.take_sublist j l).subset h
end TJ
set_option Elab.async false
set_option linter.all false
set_option maxRecDepth 100000
set_option maxHeartbeats 4000000
namespace TJ
open PySem PySem.Spec PyProof.Rows L2
open Evl (Ex fresh_back)
section
variable {X : Cx} {e : Expr} {σ : L2.St} {H : Hp} {pos : Pos} {D : Ends}
theorem j_retV {v : V} (h : JV X e σ H v) (k : ∀ H1, Ex H H1 → D.rt v H1) : J1 X (.Return (some e) pos) σ H D := PS.cq (ps_ret h) fun D' σ' H' q => by
  obtain ⟨rfl, rfl, rfl⟩ := q
  exact ⟨rfl, Ex.refl _, fun v H1 e1 hv => by subst hv; exact k H1 e1⟩
theorem j_setV {y : Str} {py : Pos} {i : Nat} {v : V} (nd : X.N.Nodup) (h : JV X e σ H v) (k : ∀ H1, Ex H H1 → D.nx (σ.set i (some v)) H1) (hN : X.N[i]? = some y := by rfl) (hl : Loc X.env.scope y := by first | exact Or.inl rfl | exact Or.inr rfl)
    (hs : swapsWith e (some (.Name y py)) pos.line X.env = pure false := by rfl) (hf : X.fn y = true ∨ X.env.scope.names.lookup y = some .local := by first | exact .inl rfl | exact .inr rfl) : J1 X (.Assign [.Name y py] e pos) σ H D :=
  PS.cq (ps_set nd hN hl h hs hf) fun D' σ' H' q => by
    obtain ⟨rfl, rfl, rfl⟩ := q
    exact ⟨rfl, Ex.refl _, fun v H1 e1 hv => by subst hv; exact k H1 e1⟩
end
section
variable {H H' H'' : Hp} {d fr : Addr} {s : SS}
/-- the search's state in the heap -/
structure Sr (H : Hp) (d fr : Addr) (s : SS) (H' : Hp) : Prop where
  ex : Ex H H'
  kv : ∃ kvs, H' d = some (.dT kvs) ∧ Keys kvs s.1
  f : Tp H' (.ref fr) (dR s.2)
theorem Sr.mono (h : Sr H d fr s H') (e : Ex H' H'') : Sr H d fr s H'' := ⟨h.ex.trans e, let ⟨kvs, a, b⟩ := h.kv; ⟨kvs, e _ _ a, b⟩, h.f.ex e⟩
theorem lst_at {q : Addr} {ds : List PyData} (h : Tp H (.ref q) (.list ds)) : ∃ xs, H q = some (.lst xs) := by
  obtain ⟨a, xs, e, h1, _⟩ := tp_lst h
  cases e
  exact ⟨xs, h1⟩
/-- behind d[t] = n; xs.append(t) -/
theorem keep2 {q : Addr} {ds : List PyData} {kvs kvs' : List (List L2.Key × V)} (hd : H' d = some (.dT kvs)) (km : Km fr (upd H' d (.dT kvs')) H'') (tx : Tx (upd H' d (.dT kvs')) H'') (h : Tp H' (.ref q) (.list ds)) (f : fltA ds = true) (n : q ≠ fr) : Tp H'' (.ref q) (.list ds) := by
  obtain ⟨xs, hx⟩ := lst_at h
  have hq : q ≠ d := fun z => by rw [z, hd] at hx; cases hx
  have t1 : Tx H' (upd H' d (.dT kvs')) := Tx.upd fun xs z => by rw [hd] at z; cases z
  exact km.lst tx n (Km.upd.lst t1 hq h f) f
theorem keepT {v : V} {dv : PyData} {kvs kvs' : List (List L2.Key × V)} (hd : H' d = some (.dT kvs)) (tx : Tx (upd H' d (.dT kvs')) H'') (h : Tp H' v dv) (f : flt dv = true) : Tp H'' v dv := by
  have t1 : Tx H' (upd H' d (.dT kvs')) := Tx.upd fun xs z => by rw [hd] at z; cases z
  exact h.tx (t1.trans tx) f
theorem Sr.put {kvs : List (List L2.Key × V)} {t : List Int} {v : V} (hd0 : H d = none) (hf0 : H fr = none) (h : Sr H d fr s H') (hd : H' d = some (.dT kvs)) (hK : Keys kvs s.1) (nt : t ∉ s.1) (km : Km fr (upd H' d (.dT (putK kvs (kI t) v))) H'')
    (hl : Tp H'' (.ref fr) (.list (s.2.map dI ++ [dI t]))) : Sr H d fr (s.1 ++ [t], s.2 ++ [t]) H'' := by
  obtain ⟨xs, hx⟩ := lst_at h.f
  have hne : d ≠ fr := fun z => by rw [z, hx] at hd; cases hd
  refine ⟨km.ex hf0 (Evl.Ex.mut h.ex hd0), ⟨_, km d _ hne upd_same, hK.put nt⟩, ?_⟩
  show Tp H'' (.ref fr) (.list ((s.2 ++ [t]).map dI))
  rw [List.map_append]
  exact hl
end
section
variable {P : Program} {w : World} {K : PySem.W.Frag} {mg : Str → Option Value} {base : Heap}
theorem ok_defS {x : Str} {st : Stmt} {N ps : List Str} {k : Nat} {sp : Sp} (F : Df K mg x st ps) (S : FnScope N ps (defScope st)) (len : ∀ vs H Q E, sp vs H Q E → vs.length = ps.length)
    (hbody : ∀ (f : Addr) (cdv : Value) (A : Around) (outer : List Env) (s : Shared) (H : Hp) (E : XK) (vs : List V) (Q : VK), Room k (cxOf CX0 P w K mg base N x (defScope st) f cdv A outer s H E).nox.A → sp vs H Q E →
      JS (cxOf CX0 P w K mg base N x (defScope st) f cdv A outer s H E).nox (defBody st) (start N vs) H { nx := fun _ H' => Q .non H', rt := Q }) : OkC P w K mg base CX0 x (k + 1) ps sp := by
  obtain ⟨f, fd, hm, hF, hb⟩ := F.ex
  exact ⟨f, fd, hm, hF.kp, hb, hF.ok S len fun cdv A outer s H vs Q E hr h => ⟨_, hbody f cdv A outer s H E vs Q hr h, rfl, rfl, rfl⟩⟩
end
/-- a search: a new dict with the keys foundM -/
def spFound : Sp := fun vs H Q _ => ∃ (W : List (List Int)) (S : List Int), Wb W ∧ Asc W.length S ∧ TpA H vs [dW W, dI S] ∧ ∀ d kvs H', H d = none → Ex H H' → H' d = some (.dT kvs) → Keys kvs (foundM W S) → Q (.ref d) H'
section
variable {P : Program} {w : World} {K : PySem.W.Frag} {mg : Str → Option Value} {base : Heap}
abbrev sReached : Stmt := topS 30
theorem scReached : FnScope ["web", "standing", "found", "last", "many", "fresh", "here", "person", "there"] ["web", "standing"] (defScope sReached) := ⟨rfl, rfl, rfl, by decide +kernel, rfl, by decide +kernel, by decide +kernel⟩
theorem ok_Reached (B : Bt mg) (F : Df K mg "reached_from" sReached ["web", "standing"]) (O1 : OkC P w K mg base CX0 "movers_in" 1 ["web", "standing"] (spD RMovers)) (O2 : OkC P w K mg base CX0 "call_in" 1 ["web", "standing", "person"] (spD RCallIn)) :
    OkC P w K mg base CX0 "reached_from" 2 ["web", "standing"] spFound := by
  refine ok_defS F scReached (fun vs H Q E h => by obtain ⟨W, S, _, _, h, _⟩ := h; exact h.len) (fun f cdv A outer s H E vs Q hr hR => ?_)
  obtain ⟨W, S, hW, hS, hv, q⟩ := hR
  obtain ⟨v1, v2, rfl, t1, t2⟩ := tpA2 hv
  have hn : W.length ≤ 7 := by have := hW.n5; omega
  have hl5 : S.length ≤ 5 := by have := asc_len hS; have := hW.n5; omega
  refine js_cons (j_par3 (i1 := 2) (i2 := 3) (i3 := 4) scReached.nd (jn_disp1 hr.units (jd_var 1 t2) jd_int) (jn_lst (ja_cons (jd_var 1 t2) ja_nil)) jd_int fun d la vn H1 hd0 hla hdl e1 hd tla tn => ?_)
  rw [tp_int tn]
  refine js_cons (j_while (fun m σ' H' => ∃ K last vl n o5 o6 o7 o8, σ' = [some v1, some v2, some (.ref d), some vl, some (.int n), o5, o6, o7, o8] ∧ Ex H H' ∧ (∃ kvs, H' d = some (.dT kvs) ∧ Keys kvs K) ∧ Tp H' vl (dR last) ∧ Gd S m (K, last) ∧ searchM W m K last = foundM W S ∧ n + m = S.length + 1)
    (S.length + 1) ⟨[S], [S], .ref la, 0, none, none, none, none, rfl, e1, ⟨_, hd, rfl⟩, tla, ⟨by simp, fun k hk => by rw [List.mem_singleton.mp hk]; exact List.Sublist.refl _, Nat.le_refl _, fun f hf => by rw [List.mem_singleton.mp hf]; exact ⟨List.Sublist.refl _, Nat.lt_succ_self _⟩⟩, rfl, by omega⟩ (fun m σ' H' p => ?_))
  obtain ⟨K', last, vl, n, o5, o6, o7, o8, rfl, p1, ⟨kvs, p2, p2'⟩, p3, p4, p5, p6⟩ := p
  refine ⟨!decide (last = []), jt_cmp (op_neD hr.units) (k_neD (shp_R last) shp_0) (jd_var 3 p3) (jd_lst ja_nil) |> fun h => jt_is h (by rw [eqv_R0]), fun hb H2 e2 => ?_, fun hb H2 e2 => ?_⟩
  case refine_2 =>
    have e : last = [] := by simpa using hb
    subst e
    rw [search_nil] at p5
    subst p5
    exact js_one (j_retV (jv_var 2 rfl) fun H3 e3 => q d kvs H3 hd0 (p1.trans (e2.trans e3)) (e3 _ _ (e2 _ _ p2)) p2')
  have ne : last ≠ [] := by simpa using hb
  obtain ⟨m, rfl⟩ : ∃ m1, m = m1 + 1 := by
    cases m with
    | zero =>
      obtain ⟨x, hx⟩ := List.exists_mem_of_ne_nil last ne
      exact absurd (p4.fs x hx).2 (Nat.not_lt_zero _)
    | succ m => exact ⟨m, rfl⟩
  have p5' : searchM W m (layerM W K' last).1 (layerM W K' last).2 = foundM W S := by rw [← p5, searchM, if_neg ne]
  refine js_cons (j_aug (i := 4) (m := n) (n := 1) scReached.nd rfl jd_int fun H3a e3a => ?_)
  refine js_cons (j_setN (i := 5) (ds := []) scReached.nd (jn_lst ja_nil) fun fr H3 hfr0 e3b tfr => ?_)
  have e3 : Ex H2 H3 := e3a.trans e3b
  have hfr : H2 fr = none := fresh_back e3a hfr0
  have E3 : Ex H H3 := p1.trans (e2.trans e3)
  have hf0 : H fr = none := fresh_back p1 (fresh_back e2 hfr)
  have pl3 : Tp H3 vl (dR last) := p3.ex (e2.trans e3)
  have g0 : Gd S m (K', []) := ⟨p4.nd, p4.sub, Nat.zero_le _, fun f hf => absurd hf (by simp)⟩
  have hlast : ∀ f ∈ last, f.Sublist S ∧ f.length ≤ m := fun f hf => ⟨(p4.fs f hf).1, Nat.le_of_lt_succ (p4.fs f hf).2⟩
  refine js_cons (j_forL (i := 6) (ds := last.map dI) scReached.nd (jd_var 3 pl3) (fun v j σ' H' => Sr H d fr ((last.take j).foldl (roundM W) (K', [])) H' ∧ v ≠ .ref fr ∧ Tp H' v (dR last) ∧ ∃ o6 o7 o8, σ' = [some v1, some v2, some (.ref d), some vl, some (.int (n + 1)), some (.ref fr), o6, o7, o8])
    (fun v H4 e4 hv => ⟨⟨E3.trans e4, ⟨kvs, e4 _ _ (e3 _ _ (e2 _ _ p2)), p2'⟩, tfr.ex e4⟩, fun z => ?_, hv, o6, o7, o8, rfl⟩) (fun v j σ' H' p => p.2.2.1) (fun v0 j dd v σ' H' hj hv p => ?_) (fun v σ' H' p => ?_))
  · subst z
    have u := Tp.uniq _ _ hv _ (tfr.ex e4)
    exact ne (List.map_eq_nil_iff.mp (PyData.list.inj u))
  · obtain ⟨s1, s2, s3, o6, o7, o8, rfl⟩ := p
    obtain ⟨here, hh, rfl⟩ := get_I hj
    have mem : here ∈ last := List.mem_of_getElem? hh
    have hhS := (hlast here mem).1
    have ah : Asc W.length here := asc_sub hS hhS
    have gj : Gd S m ((last.take j).foldl (roundM W) (K', [])) := Gd.rounds _ (fun f hf => hlast f (mem_take hf)) g0
    refine js_one (j_forL (i := 7) (ds := (moversM W here).map .int) scReached.nd (jd_call O1 (hr.mono (by decide)) (ja_cons (jd_var 0 (t1.ex s1.ex)) (ja_cons (jd_var 6 hv) ja_nil)) ⟨W, here, hW, ah, rfl, rfl⟩)
      (fun v' i σ'' H'' => Sr H d fr (((moversM W here).take i).foldl (stepM W here) ((last.take j).foldl (roundM W) (K', []))) H'' ∧ (v' = .ref fr → moversM W here = []) ∧ (v0 ≠ .ref fr ∧ Tp H'' v0 (dR last)) ∧ Tp H'' v (dI here) ∧ Tp H'' v' (dL (moversM W here)) ∧ ∃ o7 o8, σ'' = [some v1, some v2, some (.ref d), some vl, some (.int (n + 1)), some (.ref fr), some v, o7, o8])
      (fun v' H4 e4 hv' => ⟨s1.mono e4, fun z => ?_, ⟨s2, s3.ex e4⟩, hv.ex e4, hv', o7, o8, rfl⟩) (fun v' i σ'' H'' p => p.2.2.2.2.1) (fun v'0 i di vp σ'' H'' hi hvp p => ?_) (fun v' σ'' H'' p => ?_))
    · subst z
      have u := Tp.uniq _ _ hv' _ (s1.f.ex e4)
      have u' : (moversM W here).map PyData.int = (((last.take j).foldl (roundM W) (K', [])).2).map dI := PyData.list.inj u
      cases hm : moversM W here with
      | nil => rfl
      | cons a l =>
        rw [hm] at u'
        cases h2 : ((last.take j).foldl (roundM W) (K', [])).2 with
        | nil => rw [h2] at u'; cases u'
        | cons b l2 =>
          rw [h2] at u'
          have u2 : PyData.int a :: l.map .int = dI b :: l2.map dI := u'
          injection u2 with u3
          cases u3
    · obtain ⟨r1, r2, r3, r4, r5, o7, o8, rfl⟩ := p
      rw [List.getElem?_map] at hi
      cases hx : (moversM W here)[i]? with
      | none => rw [hx] at hi; cases hi
      | some x =>
        rw [hx] at hi
        have ed : PyData.int x = di := Option.some.inj hi
        subst ed
        have memx : x ∈ moversM W here := List.mem_of_getElem? hx
        have hxr := ah.lt x (List.mem_filter.mp memx).1
        have gi : Gd S m (((moversM W here).take i).foldl (stepM W here) ((last.take j).foldl (roundM W) (K', []))) := Gd.steps hhS (hlast here mem).2 _ (fun p hp => mem_take hp) gj
        have hsz := gi.small hS hn
        have hfl := gi.fl
        refine js_cons (j_set (i := 8) (d := dI (callM W here x)) scReached.nd (jd_call O2 (hr.mono (by decide)) (ja_cons (jd_var 0 (t1.ex r1.ex)) (ja_cons (jd_var 6 r4) (ja_cons (jd_var 7 hvp) ja_nil))) ⟨W, here, x, hW, ah, hxr, rfl, rfl⟩) fun vt H4 e4 tt => ?_)
        obtain ⟨kv4, k4, k4'⟩ := (r1.mono e4).kv
        refine js_one (j_if (jt_dnotin k4' hr.units (jd_var 8 tt) (jv_var 2 rfl) k4) (fun hb H5 e5 => ?_) (fun hb H5 e5 => ?_))
        · have nt : callM W here x ∉ (((moversM W here).take i).foldl (stepM W here) ((last.take j).foldl (roundM W) (K', []))).1 := by simpa using hb
          have lk4 := k4'.len
          refine js_cons (j_dput hr.units (jv_var 2 rfl) (jd_var 8 (tt.ex e5)) (jd_var 4 (.int (n + 1))) (e5 _ _ k4) (by omega) fun vn H6 e6 tn6 => ?_)
          have k6 : H6 d = some (.dT kv4) := e6 _ _ (e5 _ _ k4)
          have r16 := (r1.mono e4).mono (e5.trans e6)
          obtain ⟨xs6, hx6⟩ := lst_at r16.f
          have hne : fr ≠ d := fun z => by rw [z, k6] at hx6; cases hx6
          have t6 : Tx H6 (upd H6 d (.dT (putK kv4 (kI (callM W here x)) vn))) := Tx.upd fun xs z => by rw [k6] at z; cases z
          refine js_one (j_append (i := 5) (d := dI (callM W here x)) rfl (Km.upd.lst t6 hne r16.f (flt_A_I _)) (jd_var 8 ((tt.ex (e5.trans e6)).tx t6 (flt_I _))) (flt_I _) (flt_A_I _) (by rw [List.length_map]; omega) fun H7 km tx tl => ?_)
          have e46 := e4.trans (e5.trans e6)
          have lst2 : ∀ {v : V} {ds : List PyData}, Tp H'' v (.list ds) → fltA ds = true → v ≠ .ref fr → Tp H7 v (.list ds) := fun {v ds} h f n => by
            obtain ⟨a, xs, rfl, q1, q2⟩ := tp_lst h
            exact keep2 k6 km tx (h.ex e46) f fun z => n (by rw [z])
          refine ⟨?_, r2, ⟨r3.1, lst2 r3.2 (flt_A_I _) r3.1⟩, keepT k6 tx (r4.ex e46) (flt_I _), lst2 r5 (flt_A_int _) (fun z => by rw [r2 z] at memx; cases memx), _, _, rfl⟩
          rw [fold_take hx]
          have es : stepM W here (((moversM W here).take i).foldl (stepM W here) ((last.take j).foldl (roundM W) (K', []))) x = ((((moversM W here).take i).foldl (stepM W here) ((last.take j).foldl (roundM W) (K', []))).1 ++ [callM W here x], (((moversM W here).take i).foldl (stepM W here) ((last.take j).foldl (roundM W) (K', []))).2 ++ [callM W here x]) := if_neg nt
          rw [es]
          exact Sr.put hd0 hf0 r16 k6 k4' nt km tl
        · have yt : callM W here x ∈ (((moversM W here).take i).foldl (stepM W here) ((last.take j).foldl (roundM W) (K', []))).1 := by simpa using hb
          refine js_nil ⟨?_, r2, ⟨r3.1, r3.2.ex (e4.trans e5)⟩, r4.ex (e4.trans e5), r5.ex (e4.trans e5), _, _, rfl⟩
          rw [fold_take hx]
          have es : stepM W here (((moversM W here).take i).foldl (stepM W here) ((last.take j).foldl (roundM W) (K', []))) x = (((moversM W here).take i).foldl (stepM W here) ((last.take j).foldl (roundM W) (K', []))) := if_pos yt
          rw [es]
          exact r1.mono (e4.trans e5)
    · obtain ⟨r1, r2, r3, r4, r5, o7, o8, rfl⟩ := p
      rw [List.length_map, List.take_length] at r1
      refine ⟨?_, r3.1, r3.2, _, _, _, rfl⟩
      rw [fold_take hh]
      exact r1
  · obtain ⟨s1, s2, s3, o6, o7, o8, rfl⟩ := p
    rw [List.length_map, List.take_length] at s1
    refine js_one (j_setV (i := 3) scReached.nd (jv_var 5 rfl) fun H4 e4 => ?_)
    have s1' := s1.mono e4
    have gl : Gd S m (layerM W K' last) := Gd.rounds last hlast g0
    exact ⟨m, Nat.lt_succ_self _, (layerM W K' last).1, (layerM W K' last).2, .ref fr, n + 1, _, o6, o7, o8, rfl, s1'.ex, s1'.kv, s1'.f, gl, p5', by omega⟩
end
end TJ
set_option Elab.async false
set_option linter.all false
set_option maxRecDepth 100000
set_option maxHeartbeats 4000000
namespace TJ
open PySem PySem.Spec PyProof.Rows L2
open Evl (Ex fresh_back)
theorem search_good {W : List (List Int)} {S : List Int} : ∀ (n : Nat) {K last : List (List Int)}, Gd S n (K, last) → (searchM W n K last).Nodup ∧ ∀ k ∈ searchM W n K last, k.Sublist S
  | 0, K, last, g => ⟨g.nd, g.sub⟩
  | n + 1, K, last, g => by
    rw [searchM]
    split
    · exact ⟨g.nd, g.sub⟩
    · have g0 : Gd S n (K, []) := ⟨g.nd, g.sub, Nat.zero_le _, fun f hf => absurd hf (by simp)⟩
      exact search_good n (Gd.rounds last (fun f hf => ⟨(g.fs f hf).1, Nat.le_of_lt_succ (g.fs f hf).2⟩) g0)
theorem found_good (W : List (List Int)) (S : List Int) : (foundM W S).Nodup ∧ ∀ k ∈ foundM W S, k.Sublist S := search_good _ ⟨by simp, fun k hk => by rw [List.mem_singleton.mp hk]; exact List.Sublist.refl _, Nat.le_refl _, fun f hf => by rw [List.mem_singleton.mp hf]; exact ⟨List.Sublist.refl _, Nat.lt_succ_self _⟩⟩
theorem found_len {W : List (List Int)} {S : List Int} (h : Asc W.length S) (hW : Wb W) : (foundM W S).length ≤ 32 := by
  have h1 := nodup_len (found_good W S).1 fun k hk => (mem_choices S k).mpr ((found_good W S).2 k hk)
  rw [choices_len] at h1
  have h2 := asc_len h
  have h3 := hW.n5
  have h4 : 2 ^ S.length ≤ 2 ^ 5 := Nat.pow_le_pow_right (by decide) (by omega)
  omega
section
variable {X : Cx} {e : Expr} {es : List Expr} {σ : L2.St} {H : Hp} {pos p : Pos} {x : Str}
theorem jk_call {k : Nat} {ps : List Str} {W : List (List Int)} {S : List Int} (O : OkC X.prog X.w X.K X.mg X.base CX0 x k ps spFound) (hr : Room k X.A) (hW : Wb W) (hS : Asc W.length S) (ha : JA X (e :: es) σ H [dW W, dI S])
    (hg : Gl X x := by rfl) (hdb : (x == ("__debug__" : Str)) = false := by decide) (he : starEach (e :: es) X.env = (false, eval e X.env) :: starEach es X.env := by rfl) (hpl : (backTo pos (starEach es X.env)).any (·.1) = false := by rfl) :
    PE X (.Call (.Name x p) (e :: es) [] pos) (tKs σ H (foundM W S)) := by
  obtain ⟨f, fd, hm, hk, hb, F⟩ := O.ex
  refine PE.cq (pe_call F hr hg hm hk hb .nil pass0 ha hdb he hpl) fun σ' H1 Q q => ?_
  obtain ⟨rfl, e1, q⟩ := q
  exact ⟨rfl, e1, fun vs H2 e2 hvs => ⟨W, S, hW, hS, by rw [List.append_nil]; exact hvs, fun d kvs H3 n3 e3 hd hK => q d kvs H3 (fresh_back e2 n3) (e2.trans e3) hd hK⟩⟩
end
section
variable {P : Program} {w : World} {K : PySem.W.Frag} {mg : Str → Option Value} {base : Heap}
/-! ### worths -/
abbrev sWorths : Stmt := topS 41
theorem scWorths : FnScope ["web", "standing", "weights", "here", "one"] ["web", "standing", "weights"] (defScope sWorths) := ⟨rfl, rfl, rfl, by decide +kernel, rfl, by decide +kernel, by decide +kernel⟩
def RWorths : List PyData → PyData → Prop := fun ds d => ∃ (W : List (List Int)) (S ws : List Int), Wb W ∧ Asc W.length S ∧ Wt W.length ws ∧ ds = [dW W, dI S, dI ws] ∧ d = dI (sortU ((foundM W S).map (sumW ws)))
theorem ok_worths (B : Bt mg) (F : Df K mg "worths" sWorths ["web", "standing", "weights"]) (O1 : OkC P w K mg base CX0 "need_state" 4 ["web", "standing"] (spD RNeedState)) (O2 : OkC P w K mg base CX0 "need_weights" 3 ["web", "weights"] (spD RNeedWeights)) (O3 : OkC P w K mg base CX0 "reached_from" 2 ["web", "standing"] spFound) :
    OkC P w K mg base CX0 "worths" 5 ["web", "standing", "weights"] (spD RWorths) := by
  refine ok_def F scWorths (fun ds d h => by obtain ⟨W, S, G, _, _, _, rfl, _⟩ := h; rfl) (fun f cdv A outer s H E vs ds d Q hr hv hR q => ?_)
  obtain ⟨W, S, ws, hW, hS, hw, rfl, rfl⟩ := hR
  obtain ⟨v1, v2, v3, rfl, t1, t2, t3⟩ := tpA3 hv
  have hn : W.length ≤ 7 := by have := hW.n5; omega
  have hl := found_len hS hW
  refine js_cons (j_expr (jd_call O1 (hr.mono (by decide)) (ja_cons (jd_var 0 t1) (ja_cons (jd_var 1 t2) ja_nil)) ⟨W, S, hW, hS, rfl, rfl⟩) fun v H1 e1 hv => ?_)
  refine js_cons (j_expr (jd_call O2 (hr.mono (by decide)) (ja_cons (jd_var 0 (t1.ex e1)) (ja_cons (jd_var 2 (t3.ex e1)) ja_nil)) ⟨W, ws, hw, rfl, rfl⟩) fun v H2 e2 hv => ?_)
  have E2 := e1.trans e2
  refine js_one (j_ret (jd_tupleL B.tuple (jd_srtSet (l := (foundM W S).map (sumW ws)) (.inl rfl) (by rw [List.length_map]; omega) B.sorted B.set (jd_is (jd_lcK (i := 3) (l := foundM W S) (f := fun _ => true) (g := fun q => .int (sumW ws q)) scWorths.nd (jk_call O3 (hr.mono (by decide)) hW hS (ja_cons (jd_var 0 (t1.ex E2)) (ja_cons (jd_var 1 (t2.ex E2)) ja_nil)))
    ⟨fun _ => flt_int _, by omega, fun s0 H0 C cl fp a ha v H' e' hv => pts_yes, fun s0 H0 C cl fp a ha hf v H' e' hv => ?_⟩) (dL_map _ _)))) fun v H3 e3 hv => q v H3 (E2.trans e3) hv)
  have ae := asc_sub hS ((found_good W S).2 a ha)
  exact jd_sumW (ws := ws) (S := a) rfl B.sum (jd_lcT (i := 4) (l := a) (enc := PyData.int) (f := fun _ => true) (g := fun q => .int (wt ws q)) scWorths.nd (jd_var 3 hv)
    ⟨fun _ => flt_int _, asc_small ae hn, fun s0 H0 C cl fp b hb v' H'' e'' hv' => pts_yes, fun s0 H0 C cl fp b hb hf v' H'' e'' hv' => jd_wt hw (ae.lt b hb) (jd_var 2 (t3.ex (E2.trans (e'.trans e'')))) (jd_var 4 hv')⟩)
end
end TJ
set_option Elab.async false
set_option linter.all false
set_option maxRecDepth 100000
set_option maxHeartbeats 4000000
namespace TJ
open PySem PySem.Spec PyProof.Rows L2
open Evl (Ex fresh_back)
/-- 0, 1, .. -/
def upto (n : Nat) : List Int := (List.range n).map fun (k : Nat) => (k : Int)
theorem upto_len (n : Nat) : (upto n).length = n := by unfold upto; rw [List.length_map, List.length_range]
theorem upto_get {n i : Nat} (h : i < n) : (upto n)[i]? = some (i : Int) := by
  unfold upto
  rw [List.getElem?_map, List.getElem?_range h]
  rfl
theorem mem_upto {n : Nat} {x : Int} : x ∈ upto n ↔ 0 ≤ x ∧ x < n := by
  unfold upto
  rw [List.mem_map]
  constructor
  · rintro ⟨k, hk, rfl⟩
    have := List.mem_range.mp hk
    omega
  · rintro ⟨h1, h2⟩
    exact ⟨x.toNat, List.mem_range.mpr (by omega), by omega⟩
theorem upto_asc (n : Nat) : Asc n (upto n) := by
  refine ⟨?_, fun x hx => mem_upto.mp hx⟩
  unfold upto
  rw [List.pairwise_map]
  exact List.pairwise_lt_range.imp fun h => by omega
section
variable {X : Cx} {e a b c : Expr} {es : List Expr} {σ : L2.St} {H : Hp} {pos p : Pos} {x : Str} {D : Ends}
theorem lc_readR {n : Nat} {f : Int → Bool} {g : Int → PyData} {i : Nat} (hl : n ≤ 1000) (hg : ∀ a, flt (g a) = true) {σ' : L2.St} {H1 : Hp} {Q : VK} (q : tD σ H (.list (((upto n).filter f).map g)) σ' H1 Q) :
    tLc (iRng1 (tA σ H [.int n])) (gName i) (ttF i σ H (upto n) PyData.int f) (teF i σ H (upto n) PyData.int f g) [i] σ' H1 Q := by
  obtain ⟨rfl, e1, q⟩ := q
  refine ⟨rfl, e1, fun vs H2 e2 hv => ?_⟩
  obtain ⟨v, rfl, hv1⟩ := tpA1 hv
  rw [tp_int hv1]
  have hn : ((n : Int)).toNat = n := by simp
  refine ⟨n, rfl, by omega, by omega, fun D hD => ?_⟩
  rw [hn]
  refine lc_range (lo := 0) (n := n) (LcP H2 D (upto n) f g) (LcP.start hD) (fun j H' hj p => ⟨wipe1 _ _ _, ?_⟩) (fun H' p => ?_)
  · have hg' : (upto n)[j]? = some (j : Int) := upto_get hj
    have mem : (j : Int) ∈ upto n := List.mem_of_getElem? hg'
    have ex1 : Ex H H' := (e1.trans e2).trans p.2.1
    rw [Int.zero_add]
    exact lc_turn (by rw [upto_len]; exact hl) hg hg' p (fun Q hQ => ⟨⟨_, .int j, H', mem, ex1, .int _⟩, rfl, Ex.refl _, hQ⟩) (fun hf H3 Q e3 hQ => ⟨⟨⟨_, .int j, H', mem, ex1, .int _⟩, hf⟩, rfl, e3, hQ⟩)
  · have p' : LcP H2 D (upto n) f g (upto n).length H' := by rw [upto_len]; exact p
    obtain ⟨z1, z2⟩ := LcP.fin (H0 := H) p'
    exact q _ _ (e2.trans z1) z2
/-- [elt for y in range(n) if ..] -/
theorem jd_lcR {elt : Expr} {ifs : List Expr} {scope : Scope} {y : Str} {py p2 p3 : Pos} {i n : Nat} {f : Int → Bool} {g : Int → PyData} (nd : X.N.Nodup) (hm : X.mg "range" = none) (ha : JD X a σ H (.int n)) (L : LcOk X elt ifs scope i σ H (upto n) PyData.int f g) (hg : Gl X "range" := by rfl) (he : starEach [a] X.env = [(false, eval a X.env)] := by rfl)
    (hc : X.calm = true := by rfl) (ok : blkC X.N X.env.scope scope [(y, i)] = true := by kernel_rfl) (hN : X.N[i]? = some y := by rfl) (hy : ∀ C cl, Loc (compEnvC scope cl C X.env).scope y := by first | (intros; exact Or.inl rfl) | (intros; exact Or.inr rfl)) (hyf : ∀ s0 H0 C cl fp, (X.blk s0 H0 scope (compEnvC scope cl C X.env) fp).fn y = true ∨ (compEnvC scope cl C X.env).scope.names.lookup y = some .local := by first | (intros; exact Or.inr rfl) | (intros; exact Or.inl rfl)) (hs : ∀ x, foldedSetIterable (.Call (.Name "range" p2) [a] [] p3) X.env x = pure x := by intro _; rfl) :
    JD X (.ListComp elt [⟨.Name y py, .Call (.Name "range" p2) [a] [] p3, ifs, 0⟩] scope pos) σ H (.list (((upto n).filter f).map g)) :=
  PE.cq (pe_lc (own := [(y, i)]) (g := gName i) hc nd (pi_range1 hg hm (ja_cons ha ja_nil he) he) (blkOk_by ok) (fun s0 H0 C cl fp => pg_name nd hN (hy C cl) (hyf s0 H0 C cl fp)) (fun s0 H0 C cl fp => lc_tests L s0 H0 C cl fp) (fun s0 H0 C cl fp => lc_elts L s0 H0 C cl fp) hs) fun σ' H1 Q q => lc_readR (by have := L.len; rw [upto_len] at this; exact this) L.ft q
/-- xs + ys -/
theorem jd_catL {ds es' : List PyData} (ha : JD X a σ H (.list ds)) (hb : JD X b σ H (.list es')) (hl : ds.length + es'.length ≤ 1000) : JD X (.BinOp a .Add b pos) σ H (.list (ds ++ es')) := by
  refine jd_op (da := .list ds) (db := .list es') op_cat (fun x y H1 Q hx hy q => ?_) ha hb
  obtain ⟨t, xs, rfl, h1, h2⟩ := tp_lst hx
  obtain ⟨u, ys, rfl, h3, h4⟩ := tp_lst hy
  exact ⟨t, u, xs, ys, rfl, rfl, h1, h3, by rw [h2.len, h4.len]; exact sz1 hl, fun l hl => q _ _ (Ex.nw hl) (.lst upd_same ((h2.app h4).ex (Ex.nw hl)))⟩
/-- list(d), d a new dict -/
theorem jd_listK {L : List (List Int)} (hc : X.calm = true) (hm : X.mg "list" = none) (ha : PE X a (tKs σ H L)) (hg : Gl X "list" := by rfl) (he : starEach [a] X.env = (false, eval a X.env) :: starEach [] X.env := by rfl) :
    JD X (.Call (.Name "list" p) [a] [] pos) σ H (dR L) := PE.cq (pe_callTy (call_list_dT hc) hg hm bt_list (pa_cons ha pa_nil he) (by decide) (by decide) he (by rfl)) fun σ' H1 Q q => by
  obtain ⟨rfl, e1, q⟩ := q
  refine ⟨rfl, e1, fun d kvs H2 n2 e2 hd hK => ⟨d, kvs, rfl, Rd.of hd, fun p bs hp hbs => ?_⟩⟩
  refine q _ _ (e2.trans (Ex.nw hp)) (.lst upd_same ?_)
  have key2 : ∀ {kvs : List (List L2.Key × V)} {bs : List Addr}, IsKeys H2 kvs bs → ∀ {L : List (List Int)}, Keys kvs L → TpA H2 (bs.map V.ref) (L.map dI) := by
    intro kvs bs h
    induction h with
    | nil =>
      intro L hL
      cases L with
      | nil => exact .nil
      | cons l L => cases hL
    | cons h1 h2 ih =>
      intro L hL
      cases L with
      | nil => cases hL
      | cons l L =>
        rename_i pp bb kk bbs
        have hL' : pp.1 :: kk.map (·.1) = kI l :: L.map kI := hL
        injection hL' with e1 e2
        rw [e1] at h1
        exact .cons (key_tp h1) (ih e2)
  exact (key2 hbs hK).ex (Ex.nw hp)
def isNo : PyData → Bool
  | .none => true
  | _ => false
/-- e is None -/
theorem jt_isNone {d : PyData} {j} {p2 : Pos} (ha : JD X a σ H d) (hm : behindInMarks .Is (.Constant .none j p2) = false := by rfl) : JT X (.Compare a [.Is] [.Constant .none j p2] pos) σ H (isNo d) := PT.cq (pt_cmp (pc_isN ha) hm) fun σ' H1 Q q => by
  obtain ⟨rfl, e1, q⟩ := q
  refine ⟨rfl, e1, fun v H2 e2 hv => ⟨_, rfl, ?_⟩⟩
  have e : decide (v = .non) = isNo d := by
    cases hv <;> rfl
  rw [e]
  exact q H2 e2
end
end TJ
set_option Elab.async false
set_option linter.all false
set_option maxRecDepth 100000
set_option maxHeartbeats 4000000
namespace TJ
open PySem PySem.Spec PyProof.Rows L2
open Evl (Ex fresh_back)
section
variable {P : Program} {w : World} {K : PySem.W.Frag} {mg : Str → Option Value} {base : Heap}
/-! ### _law_call -/
abbrev sLCall : Stmt := topS 50
theorem scLCall : FnScope ["_law_web_here", "_law_here", "_law_person", "_law_other"] ["_law_web_here", "_law_here", "_law_person"] (defScope sLCall) := ⟨rfl, rfl, rfl, by decide +kernel, rfl, by decide +kernel, by decide +kernel⟩
theorem ok_lcall (B : Bt mg) (F : Df K mg "_law_call" sLCall ["_law_web_here", "_law_here", "_law_person"]) : OkC P w K mg base CX0 "_law_call" 1 ["_law_web_here", "_law_here", "_law_person"] (spD RCallIn) := by
  refine ok_def F scLCall (fun ds d h => by obtain ⟨W, S, p, _, _, _, rfl, _⟩ := h; rfl) (fun f cdv A outer s H E vs ds d Q hr hv hR q => ?_)
  obtain ⟨W, S, p, hW, hS, hp, rfl, rfl⟩ := hR
  obtain ⟨v1, v2, v3, rfl, t1, t2, t3⟩ := tpA3 hv
  have hn : W.length ≤ 7 := by have := hW.n5; omega
  refine js_cons (j_if (jt_notin (jd_var 2 t3) (jd_var 1 t2)) (fun hb H1 e1 => ?_) (fun hb H1 e1 => ?_))
  · refine js_one (j_ret (jd_var 1 (t2.ex e1)) fun v H2 e2 hv => q v H2 (e1.trans e2) ?_)
    have np : p ∉ S := by simpa using hb
    unfold callM
    rw [if_neg np]
    exact hv
  · have np : p ∈ S := by simpa using hb
    refine js_nil (js_one (j_ret (d := dI (callM W S p)) ?_ fun v H2 e2 hv => q v H2 (e1.trans e2) hv))
    unfold callM
    rw [if_pos np]
    refine jd_tupleL B.tuple (jd_lcT (i := 3) (enc := PyData.int) (g := PyData.int) scLCall.nd (jd_var 1 (t2.ex e1)) ⟨fun _ => by simp [flt], asc_small hS hn, fun s0 H0 C cl fp a ha v H' e' hv => ?_, fun s0 H0 C cl fp a ha hf v H' e' hv => jd_var 3 hv⟩)
    exact pts_one (jt_or (jt_ge (jd_var 3 hv) (jd_var 2 (t3.ex (e1.trans e')))) fun _ => jt_notin (jd_var 3 hv) (jd_ixT (jd_var 0 (t1.ex (e1.trans e'))) (jd_is (jd_var 2 (t3.ex (e1.trans e'))) (by rw [Int.toNat_of_nonneg hp.1])) (get_W (hW.fr hp.1 hp.2))))
/-! ### _law_done -/
abbrev sLDone : Stmt := topS 51
theorem scLDone : FnScope ["_law_web_here", "_law_here", "_law_calls", "_law_person"] ["_law_web_here", "_law_here", "_law_calls"] (defScope sLDone) := ⟨rfl, rfl, rfl, by decide +kernel, rfl, by decide +kernel, by decide +kernel⟩
def RDone : List PyData → PyData → Prop := fun ds d => ∃ (W : List (List Int)) (S L : List Int), Wb W ∧ Asc W.length S ∧ Asc W.length L ∧ ds = [dW W, dI S, dI L] ∧ d = dI (goM W S L)
theorem ok_ldone (F : Df K mg "_law_done" sLDone ["_law_web_here", "_law_here", "_law_calls"]) (O1 : OkC P w K mg base CX0 "_law_call" 1 ["_law_web_here", "_law_here", "_law_person"] (spD RCallIn)) :
    OkC P w K mg base CX0 "_law_done" 2 ["_law_web_here", "_law_here", "_law_calls"] (spD RDone) := by
  refine ok_def F scLDone (fun ds d h => by obtain ⟨W, S, L, _, _, _, rfl, _⟩ := h; rfl) (fun f cdv A outer s H E vs ds d Q hr hv hR q => ?_)
  obtain ⟨W, S, L, hW, hS, hL, rfl, rfl⟩ := hR
  obtain ⟨v1, v2, v3, rfl, t1, t2, t3⟩ := tpA3 hv
  refine js_cons (j_forT (i := 3) (ds := L.map .int) scLDone.nd (jd_var 2 t3) (fun v j σ' H' => Ex H H' ∧ Tp H' v (dI L) ∧ ∃ h o, σ' = [some v1, some h, some v3, o] ∧ Tp H' h (dI (goM W S (L.take j))))
    (fun v H2 e2 hv => ⟨e2, hv, v2, none, rfl, t2.ex e2⟩) (fun v j σ' H' p => p.2.1) (fun v0 j d v σ' H' hj hv p => ?_) (fun v σ' H' p => ?_))
  · obtain ⟨p1, p2, h, o, rfl, p3⟩ := p
    rw [List.getElem?_map] at hj
    cases hx : L[j]? with
    | none => rw [hx] at hj; cases hj
    | some x =>
      rw [hx] at hj
      have ed : PyData.int x = d := Option.some.inj hj
      subst ed
      have hp := hL.lt x (List.mem_of_getElem? hx)
      refine js_one (j_set (i := 1) (d := dI (goM W S (L.take (j + 1)))) scLDone.nd (jd_call O1 (hr.mono (by decide)) (ja_cons (jd_var 0 (t1.ex p1)) (ja_cons (jd_var 1 p3) (ja_cons (jd_var 3 hv) ja_nil))) ⟨W, _, x, hW, asc_go hS, hp, rfl, by rw [go_take hx]⟩) fun vh' H2 e2 th' => ⟨p1.trans e2, p2.ex e2, vh', _, rfl, th'⟩)
  · obtain ⟨p1, p2, h, o, rfl, p3⟩ := p
    rw [List.length_map, List.take_length] at p3
    exact js_one (j_ret (jd_var 1 p3) fun v H2 e2 hv => q v H2 (p1.trans e2) hv)
/-! ### _law_movers -/
abbrev sLMovers : Stmt := topS 52
theorem scLMovers : FnScope ["_law_web_here", "_law_here", "_law_person"] ["_law_web_here", "_law_here"] (defScope sLMovers) := ⟨rfl, rfl, rfl, by decide +kernel, rfl, by decide +kernel, by decide +kernel⟩
theorem movers_eq (W : List (List Int)) (S : List Int) : (S.filter fun p => !decide (callM W S p = S)) = moversM W S := by
  unfold moversM
  refine List.filter_congr fun p hp => ?_
  cases hl : lowF W p S with
  | true =>
    have hm : p ∈ moversM W S := List.mem_filter.mpr ⟨hp, hl⟩
    have := call_lt hm
    have : callM W S p ≠ S := fun z => by rw [z] at this; exact Nat.lt_irrefl _ this
    simp [this]
  | false =>
    have e : callM W S p = S := by
      have hnm : p ∉ moversM W S := fun z => by rw [(List.mem_filter.mp z).2] at hl; cases hl
      unfold callM
      rw [if_pos hp]
      refine List.filter_eq_self.mpr fun q hq => ?_
      by_cases h1 : p ≤ q
      · simp [h1]
      · by_cases h2 : q ∈ fr W p
        · exact absurd (mem_movers.mpr ⟨hp, q, h2, by omega, hq⟩) hnm
        · simp [h2]
    simp [e]
theorem ok_lmovers (F : Df K mg "_law_movers" sLMovers ["_law_web_here", "_law_here"]) (O1 : OkC P w K mg base CX0 "_law_call" 1 ["_law_web_here", "_law_here", "_law_person"] (spD RCallIn)) :
    OkC P w K mg base CX0 "_law_movers" 2 ["_law_web_here", "_law_here"] (spD RMovers) := by
  refine ok_def F scLMovers (fun ds d h => by obtain ⟨W, p, _, _, rfl, _⟩ := h; rfl) (fun f cdv A outer s H E vs ds d Q hr hv hR q => ?_)
  obtain ⟨W, S, hW, hS, rfl, rfl⟩ := hR
  obtain ⟨v1, v2, rfl, t1, t2⟩ := tpA2 hv
  have hn : W.length ≤ 7 := by have := hW.n5; omega
  refine js_one (j_ret (d := dL (moversM W S)) (jd_is (jd_lcT (i := 2) (l := S) (enc := PyData.int) (f := fun p => !decide (callM W S p = S)) (g := PyData.int) scLMovers.nd (jd_var 1 t2) ⟨fun _ => flt_int _, asc_small hS hn, fun s0 H0 C cl fp a ha v H' e' hv => ?_, fun s0 H0 C cl fp a ha hf v H' e' hv => jd_var 2 hv⟩) (by rw [movers_eq]; rfl)) q)
  exact pts_one (jt_is (jt_cmp (op_neD hr.units) (k_neD (shp_I _) (shp_I _)) (jd_call O1 (hr.mono (by decide)) (ja_cons (jd_var 0 (t1.ex e')) (ja_cons (jd_var 1 (t2.ex e')) (ja_cons (jd_var 2 hv) ja_nil))) ⟨W, S, a, hW, hS, hS.lt a ha, rfl, rfl⟩) (jd_var 1 (t2.ex e'))) (by rw [eqv_I]))
/-! ### _law_sets -/
abbrev sLSets : Stmt := topS 48
theorem scLSets : FnScope ["_law_many", "_law_found", "_law_person", "_law_piece"] ["_law_many"] (defScope sLSets) := ⟨rfl, rfl, rfl, by decide +kernel, rfl, by decide +kernel, by decide +kernel⟩
def RSets : List PyData → PyData → Prop := fun ds d => ∃ n : Nat, n ≤ 7 ∧ ds = [.int n] ∧ d = dR (choicesM (upto n))
theorem ok_lsets (B : Bt mg) (F : Df K mg "_law_sets" sLSets ["_law_many"]) : OkC P w K mg base CX0 "_law_sets" 1 ["_law_many"] (spD RSets) := by
  refine ok_def F scLSets (fun ds d h => by obtain ⟨n, _, rfl, _⟩ := h; rfl) (fun f cdv A outer s H E vs ds d Q hr hv hR q => ?_)
  obtain ⟨n, hn, rfl, rfl⟩ := hR
  obtain ⟨v1, rfl, t1⟩ := tpA1 hv
  refine js_cons (j_set (i := 1) (d := dR (choicesM [])) scLSets.nd (jd_lst (ja_cons (jd_tup (ds := []) ja_nil) ja_nil)) fun vf H1 e1 tf => ?_)
  refine js_cons (j_forR (i := 2) (n := n) scLSets.nd B.range (jd_var 0 (t1.ex e1)) (by omega) (fun j σ' H' => Ex H H' ∧ ∃ f o, σ' = [some v1, some f, o, none] ∧ Tp H' f (dR (choicesM ((upto n).take j))))
    (fun H2 e2 => ⟨e1.trans e2, vf, none, rfl, tf.ex e2⟩) (fun j σ' H' hj p => ?_) (fun σ' H' p => ?_))
  · obtain ⟨p1, f, o, rfl, p2⟩ := p
    have hx : (upto n)[j]? = some (j : Int) := upto_get hj
    have hT : Asc n ((upto n).take j) := asc_sub (upto_asc n) (List.take_sublist j _)
    have h128 := choices_small hT hn
    have key : ∀ r ∈ choicesM ((upto n).take j), r.length ≤ 7 := fun r hr => by have := asc_len (asc_sub hT ((mem_choices _ r).mp hr)); omega
    refine js_one (j_set (i := 1) (d := dR (choicesM ((upto n).take (j + 1)))) scLSets.nd (jd_is (jd_catL (jd_var 1 p2) (jd_lcL (i := 3) (l := choicesM ((upto n).take j)) (enc := dI) (f := fun _ => true) (g := fun r => dI (r ++ [(j : Int)])) scLSets.nd (jd_var 1 p2)
      ⟨fun _ => flt_I _, by omega, fun s0 H0 C cl fp a ha v H' e' hv => pts_yes, fun s0 H0 C cl fp a ha hf v H' e' hv => ?_⟩) ?_) ?_) fun v H2 e2 hv => ⟨p1.trans e2, v, _, rfl, hv⟩)
    · have hla := key a ha
      exact jd_is (jd_catT (jd_var 3 hv) (jd_tup (ja_cons (jd_var 2 (.int j)) ja_nil)) (by rw [List.length_map]; simp; omega)) (by unfold dI; rw [List.map_append]; rfl)
    · rw [List.length_map, List.length_map, List.filter_eq_self.mpr fun _ _ => rfl]
      omega
    · rw [choices_take hx]
      unfold dR
      rw [List.map_append, List.map_map, List.filter_eq_self.mpr fun _ _ => rfl]
      rfl
  · obtain ⟨p1, f, o, rfl, p2⟩ := p
    rw [List.take_of_length_le (Nat.le_of_eq (upto_len n))] at p2
    exact js_one (j_ret (jd_var 1 p2) fun v H2 e2 hv => q v H2 (p1.trans e2) hv)
/-! ### _law_alike -/
abbrev sLAlike : Stmt := topS 45
theorem scLAlike : FnScope ["_law_found", "_law_due", "_law_k"] ["_law_found", "_law_due"] (defScope sLAlike) := ⟨rfl, rfl, rfl, by decide +kernel, rfl, by decide +kernel, by decide +kernel⟩
/-- ints, None, tuples of these, k deep -/
def Al : Nat → PyData → Prop
  | 0, d => d = .none ∨ ∃ i, d = .int i
  | k + 1, d => Al k d ∨ ∃ xs, d = .tuple xs ∧ xs.length ≤ 1000 ∧ ∀ x ∈ xs, Al k x
def RAlike (k : Nat) : List PyData → PyData → Prop := fun ds d => ∃ x, Al k x ∧ ds = [x, x] ∧ d = .bool true
theorem shp_int (i : Int) : SeqAt.shaped (.int i) = true := by
  unfold SeqAt.shaped
  rw [PyData.canLay0, PyData.depth]
  rfl
theorem shp_bool (i : Bool) : SeqAt.shaped (.bool i) = true := by
  unfold SeqAt.shaped
  rw [PyData.canLay0, PyData.depth]
  rfl
theorem shp_none : SeqAt.shaped .none = true := by
  unfold SeqAt.shaped
  rw [PyData.canLay0, PyData.depth]
  rfl
theorem kit_in : kitB (tyN (.none)) "tuple" = some false := (by decide +kernel : kitB "NoneType" "tuple" = some false)
theorem kit_nl : kitB (tyN (.none)) "list" = some false := (by decide +kernel : kitB "NoneType" "list" = some false)
theorem kit_it {i : Int} : kitB (tyN (.int i)) "tuple" = some false := (by decide +kernel : kitB "int" "tuple" = some false)
theorem kit_il {i : Int} : kitB (tyN (.int i)) "list" = some false := (by decide +kernel : kitB "int" "list" = some false)
theorem kit_is {i : Int} : kitB (tyN (.int i)) "str" = some false := (by decide +kernel : kitB "int" "str" = some false)
theorem kit_ns : kitB (tyN (.none)) "str" = some false := (by decide +kernel : kitB "NoneType" "str" = some false)
theorem kit_tl {xs : List PyData} : kitB (tyN (.tuple xs)) "list" = some false := (by decide +kernel : kitB "tuple" "list" = some false)
/-- the test of an atom -/
theorem ok_alike0 {k : Nat} {f : Addr} {cdv : Value} {A : Around} {outer : List Env} {s : Shared} {H : Hp} {E : XK} {v1 v2 : V} {x : PyData} {Q : VK} (B : Bt mg) (hr : Room k (cxOf CX0 P w K mg base ["_law_found", "_law_due", "_law_k"] "_law_alike" (defScope sLAlike) f cdv A outer s H E).nox.A)
    (hx : x = .none ∨ ∃ i, x = .int i) (t1 : Tp H v1 x) (t2 : Tp H v2 x) (q : ∀ v H', Ex H H' → Tp H' v (.bool true) → Q v H') :
    JS (cxOf CX0 P w K mg base ["_law_found", "_law_due", "_law_k"] "_law_alike" (defScope sLAlike) f cdv A outer s H E).nox (defBody sLAlike) (start ["_law_found", "_law_due", "_law_k"] [v1, v2]) H { nx := fun _ H' => Q .non H', rt := Q } := by
  rcases hx with rfl | ⟨i, rfl⟩
  · refine js_cons (j_ifno (jt_val (jd_isi2 B.isi B.tuple bt_tuple B.list bt_list kit_in kit_nl (jd_var 1 t2))) fun H1 e1 => ?_)
    refine js_cons (j_if (b := true) (jt_or (x := true) (y := true) (jt_isNone (jd_var 1 (t2.ex e1))) fun z => nomatch z) (fun _ H2 e2 => ?_) fun z => nomatch z)
    have E2 := e1.trans e2
    refine js_one (j_ret (jd_is (jd_and (jd_cmp (op_eqD hr.units) (k_eqD shp_none shp_none) (jd_var 0 (t1.ex E2)) (jd_var 1 (t2.ex E2))) fun _ => jd_one (jd_cmp (op_eqD hr.units) (k_eqD (shp_bool false) (shp_bool false)) (jd_isi B.isi B.str bt_str kit_ns (jd_var 0 (t1.ex E2))) (jd_isi B.isi B.str bt_str kit_ns (jd_var 1 (t2.ex E2))))) ?_) fun v H3 e3 hv => q v H3 (E2.trans e3) hv)
    simp [PyData.eqv]
  · refine js_cons (j_ifno (jt_val (jd_isi2 B.isi B.tuple bt_tuple B.list bt_list kit_it kit_il (jd_var 1 t2))) fun H1 e1 => ?_)
    refine js_cons (j_ifno (jt_or (x := false) (y := false) (jt_isNone (jd_var 1 (t2.ex e1))) fun _ => jt_val (jd_isi B.isi B.str bt_str kit_is (jd_var 1 (t2.ex e1)))) fun H2 e2 => ?_)
    have E2 := e1.trans e2
    refine js_one (j_ret (jd_is (jd_and (jd_isi B.isi B.int bt_int kit_ii (jd_var 0 (t1.ex E2))) fun _ => jd_and (jd_cmp (op_eqD hr.units) (k_eqD (shp_bool false) (shp_bool false)) (jd_isi B.isi B.bool bt_bool kit_ib (jd_var 0 (t1.ex E2))) (jd_isi B.isi B.bool bt_bool kit_ib (jd_var 1 (t2.ex E2)))) fun _ => jd_one (jd_cmp (op_eqD hr.units) (k_eqD (shp_int i) (shp_int i)) (jd_var 0 (t1.ex E2)) (jd_var 1 (t2.ex E2)))) ?_) fun v H3 e3 hv => q v H3 (E2.trans e3) hv)
    simp [PyData.eqv]
theorem ok_alike (B : Bt mg) (F : Df K mg "_law_alike" sLAlike ["_law_found", "_law_due"]) : ∀ k, OkC P w K mg base CX0 "_law_alike" (k + 1) ["_law_found", "_law_due"] (spD (RAlike k))
  | 0 => by
    refine ok_def F scLAlike (fun ds d h => by obtain ⟨x, _, rfl, _⟩ := h; rfl) (fun f cdv A outer s H E vs ds d Q hr hv hR q => ?_)
    obtain ⟨x, hx, rfl, rfl⟩ := hR
    obtain ⟨v1, v2, rfl, t1, t2⟩ := tpA2 hv
    exact ok_alike0 B hr hx t1 t2 q
  | k + 1 => by
    have O := ok_alike B F k
    refine ok_def F scLAlike (fun ds d h => by obtain ⟨x, _, rfl, _⟩ := h; rfl) (fun f cdv A outer s H E vs ds d Q hr hv hR q => ?_)
    obtain ⟨x, hx, rfl, rfl⟩ := hR
    obtain ⟨v1, v2, rfl, t1, t2⟩ := tpA2 hv
    have hx' : (x = .none ∨ ∃ i, x = .int i) ∨ ∃ xs, x = .tuple xs ∧ xs.length ≤ 1000 ∧ ∀ y ∈ xs, Al k y := by
      have key : ∀ k, Al (k + 1) x → (x = .none ∨ ∃ i, x = .int i) ∨ ∃ xs, x = .tuple xs ∧ xs.length ≤ 1000 ∧ ∀ y ∈ xs, Al k y := by
        intro k
        induction k with
        | zero =>
          intro h
          rcases h with h | h
          · exact .inl h
          · exact .inr h
        | succ k ih =>
          intro h
          rcases h with h | h
          · rcases ih h with z | ⟨xs, e, hl, z⟩
            · exact .inl z
            · exact .inr ⟨xs, e, hl, fun y hy => .inl (z y hy)⟩
          · exact .inr h
      exact key k hx
    rcases hx' with hx' | ⟨xs, rfl, hlen, hal⟩
    · exact ok_alike0 B hr hx' t1 t2 q
    refine js_cons (j_if (b := true) (jt_val (jd_isi2 B.isi B.tuple bt_tuple B.list bt_list kit_tt kit_tl (jd_var 1 t2))) (fun _ H1 e1 => ?_) fun z => nomatch z)
    refine js_cons (j_ifno (jt_is (jt_or (jt_not (jt_val (jd_isi2 B.isi B.tuple bt_tuple B.list bt_list kit_tt kit_tl (jd_var 0 (t1.ex e1))))) fun _ => jt_cmp (op_neD hr.units) (k_neD (shp_bool false) (shp_bool false)) (jd_isi B.isi B.list bt_list kit_tl (jd_var 0 (t1.ex e1))) (jd_isi B.isi B.list bt_list kit_tl (jd_var 1 (t2.ex e1)))) (by simp [PyData.eqv])) fun H2 e2 => ?_)
    have E2 := e1.trans e2
    refine js_cons (j_ifno (jt_is (jt_cmp (op_neD hr.units) (k_neD (shp_int _) (shp_int _)) (jd_lenT B.len (jd_var 0 (t1.ex E2))) (jd_lenT B.len (jd_var 1 (t2.ex E2)))) (by simp [PyData.eqv])) fun H3 e3 => ?_)
    have E3 := E2.trans e3
    refine js_one (j_ret (jd_is (jd_cmp (op_eqD hr.units) (k_eqD (shp_L []) (shp_L [])) (jd_is (jd_lcR (i := 2) (n := xs.length) (f := fun _ => false) (g := PyData.int) scLAlike.nd B.range (jd_lenT B.len (jd_var 1 (t2.ex E3)))
      ⟨fun _ => flt_int _, by rw [upto_len]; exact hlen, fun s0 H0 C cl fp a ha v H' e' hv => ?_, fun s0 H0 C cl fp a ha hf => nomatch hf⟩) (show _ = dL [] by rw [List.filter_eq_nil_iff.mpr (fun _ _ => Bool.false_ne_true)]; rfl)) (jd_lst ja_nil)) (show _ = PyData.bool true by rw [eqv_L]; rfl)) fun v H4 e4 hv => q v H4 (E3.trans e4) hv)
    obtain ⟨h0, h1⟩ := mem_upto.mp ha
    have hlt : a.toNat < xs.length := by omega
    have hget : xs[a.toNat]? = some xs[a.toNat] := List.getElem?_eq_getElem hlt
    exact pts_one (jt_is (jt_not (jt_val (jd_call O hr (ja_cons (jd_ixT (jd_var 0 (t1.ex (E3.trans e'))) (jd_is (jd_var 2 hv) (by rw [Int.toNat_of_nonneg h0])) hget) (ja_cons (jd_ixT (jd_var 1 (t2.ex (E3.trans e'))) (jd_is (jd_var 2 hv) (by rw [Int.toNat_of_nonneg h0])) hget) ja_nil)) ⟨_, hal _ (List.getElem_mem hlt), rfl, rfl⟩))) rfl)
end
end TJ
set_option Elab.async false
set_option linter.all false
set_option maxRecDepth 100000
set_option maxHeartbeats 4000000
namespace TJ
open PySem PySem.Spec PyProof.Rows L2
open Evl (Ex fresh_back)
section
variable {P : Program} {w : World} {K : PySem.W.Frag} {mg : Str → Option Value} {base : Heap}
abbrev sLSearch : Stmt := topS 53
theorem scLSearch : FnScope ["_law_web_here", "_law_begin", "_law_found", "_law_last", "_law_count", "_law_fresh", "_law_here", "_law_person", "_law_there"] ["_law_web_here", "_law_begin"] (defScope sLSearch) := ⟨rfl, rfl, rfl, by decide +kernel, rfl, by decide +kernel, by decide +kernel⟩
theorem ok_LSearch (B : Bt mg) (F : Df K mg "_law_search" sLSearch ["_law_web_here", "_law_begin"]) (O1 : OkC P w K mg base CX0 "_law_movers" 2 ["_law_web_here", "_law_here"] (spD RMovers)) (O2 : OkC P w K mg base CX0 "_law_call" 1 ["_law_web_here", "_law_here", "_law_person"] (spD RCallIn)) :
    OkC P w K mg base CX0 "_law_search" 3 ["_law_web_here", "_law_begin"] spFound := by
  refine ok_defS F scLSearch (fun vs H Q E h => by obtain ⟨W, S, _, _, h, _⟩ := h; exact h.len) (fun f cdv A outer s H E vs Q hr hR => ?_)
  obtain ⟨W, S, hW, hS, hv, q⟩ := hR
  obtain ⟨v1, v2, rfl, t1, t2⟩ := tpA2 hv
  have hn : W.length ≤ 7 := by have := hW.n5; omega
  have hl5 : S.length ≤ 5 := by have := asc_len hS; have := hW.n5; omega
  refine js_cons (j_par3 (i1 := 2) (i2 := 3) (i3 := 4) scLSearch.nd (jn_disp1 hr.units (jd_var 1 t2) jd_int) (jn_lst (ja_cons (jd_var 1 t2) ja_nil)) jd_int fun d la vn H1 hd0 hla hdl e1 hd tla tn => ?_)
  rw [tp_int tn]
  refine js_cons (j_while (fun m σ' H' => ∃ K last vl n o5 o6 o7 o8, σ' = [some v1, some v2, some (.ref d), some vl, some (.int n), o5, o6, o7, o8] ∧ Ex H H' ∧ (∃ kvs, H' d = some (.dT kvs) ∧ Keys kvs K) ∧ Tp H' vl (dR last) ∧ Gd S m (K, last) ∧ searchM W m K last = foundM W S ∧ n + m = S.length + 1)
    (S.length + 1) ⟨[S], [S], .ref la, 0, none, none, none, none, rfl, e1, ⟨_, hd, rfl⟩, tla, ⟨by simp, fun k hk => by rw [List.mem_singleton.mp hk]; exact List.Sublist.refl _, Nat.le_refl _, fun f hf => by rw [List.mem_singleton.mp hf]; exact ⟨List.Sublist.refl _, Nat.lt_succ_self _⟩⟩, rfl, by omega⟩ (fun m σ' H' p => ?_))
  obtain ⟨K', last, vl, n, o5, o6, o7, o8, rfl, p1, ⟨kvs, p2, p2'⟩, p3, p4, p5, p6⟩ := p
  refine ⟨!decide (last = []), jt_is (jt_and (jt_is (jt_cmp (op_neD hr.units) (k_neD (shp_R last) shp_0) (jd_var 3 p3) (jd_lst ja_nil)) (by rw [eqv_R0])) fun hz => jt_lt (jd_var 4 (.int n)) jd_int) (show (!decide (last = []) && decide (n < 9)) = !decide (last = []) by
    have h9 : n < 9 := by omega
    rw [decide_eq_true h9, Bool.and_true]), fun hb H2 e2 => ?_, fun hb H2 e2 => ?_⟩
  case refine_2 =>
    have e : last = [] := by simpa using hb
    subst e
    rw [search_nil] at p5
    subst p5
    exact js_one (j_retV (jv_var 2 rfl) fun H3 e3 => q d kvs H3 hd0 (p1.trans (e2.trans e3)) (e3 _ _ (e2 _ _ p2)) p2')
  have ne : last ≠ [] := by simpa using hb
  obtain ⟨m, rfl⟩ : ∃ m1, m = m1 + 1 := by
    cases m with
    | zero =>
      obtain ⟨x, hx⟩ := List.exists_mem_of_ne_nil last ne
      exact absurd (p4.fs x hx).2 (Nat.not_lt_zero _)
    | succ m => exact ⟨m, rfl⟩
  have p5' : searchM W m (layerM W K' last).1 (layerM W K' last).2 = foundM W S := by rw [← p5, searchM, if_neg ne]
  refine js_cons (j_parN (i1 := 4) (i2 := 5) (ds := []) scLSearch.nd (jd_add (jd_var 4 (.int n)) jd_int) (jn_lst ja_nil) fun vn3 fr H3 hfr e3 tn3 tfr => ?_)
  rw [tp_int tn3]
  have E3 : Ex H H3 := p1.trans (e2.trans e3)
  have hf0 : H fr = none := fresh_back p1 (fresh_back e2 hfr)
  have pl3 : Tp H3 vl (dR last) := p3.ex (e2.trans e3)
  have g0 : Gd S m (K', []) := ⟨p4.nd, p4.sub, Nat.zero_le _, fun f hf => absurd hf (by simp)⟩
  have hlast : ∀ f ∈ last, f.Sublist S ∧ f.length ≤ m := fun f hf => ⟨(p4.fs f hf).1, Nat.le_of_lt_succ (p4.fs f hf).2⟩
  refine js_cons (j_forL (i := 6) (ds := last.map dI) scLSearch.nd (jd_var 3 pl3) (fun v j σ' H' => Sr H d fr ((last.take j).foldl (roundM W) (K', [])) H' ∧ v ≠ .ref fr ∧ Tp H' v (dR last) ∧ ∃ o6 o7 o8, σ' = [some v1, some v2, some (.ref d), some vl, some (.int (n + 1)), some (.ref fr), o6, o7, o8])
    (fun v H4 e4 hv => ⟨⟨E3.trans e4, ⟨kvs, e4 _ _ (e3 _ _ (e2 _ _ p2)), p2'⟩, tfr.ex e4⟩, fun z => ?_, hv, o6, o7, o8, rfl⟩) (fun v j σ' H' p => p.2.2.1) (fun v0 j dd v σ' H' hj hv p => ?_) (fun v σ' H' p => ?_))
  · subst z
    have u := Tp.uniq _ _ hv _ (tfr.ex e4)
    exact ne (List.map_eq_nil_iff.mp (PyData.list.inj u))
  · obtain ⟨s1, s2, s3, o6, o7, o8, rfl⟩ := p
    obtain ⟨here, hh, rfl⟩ := get_I hj
    have mem : here ∈ last := List.mem_of_getElem? hh
    have hhS := (hlast here mem).1
    have ah : Asc W.length here := asc_sub hS hhS
    have gj : Gd S m ((last.take j).foldl (roundM W) (K', [])) := Gd.rounds _ (fun f hf => hlast f (mem_take hf)) g0
    refine js_one (j_forL (i := 7) (ds := (moversM W here).map .int) scLSearch.nd (jd_call O1 (hr.mono (by decide)) (ja_cons (jd_var 0 (t1.ex s1.ex)) (ja_cons (jd_var 6 hv) ja_nil)) ⟨W, here, hW, ah, rfl, rfl⟩)
      (fun v' i σ'' H'' => Sr H d fr (((moversM W here).take i).foldl (stepM W here) ((last.take j).foldl (roundM W) (K', []))) H'' ∧ (v' = .ref fr → moversM W here = []) ∧ (v0 ≠ .ref fr ∧ Tp H'' v0 (dR last)) ∧ Tp H'' v (dI here) ∧ Tp H'' v' (dL (moversM W here)) ∧ ∃ o7 o8, σ'' = [some v1, some v2, some (.ref d), some vl, some (.int (n + 1)), some (.ref fr), some v, o7, o8])
      (fun v' H4 e4 hv' => ⟨s1.mono e4, fun z => ?_, ⟨s2, s3.ex e4⟩, hv.ex e4, hv', o7, o8, rfl⟩) (fun v' i σ'' H'' p => p.2.2.2.2.1) (fun v'0 i di vp σ'' H'' hi hvp p => ?_) (fun v' σ'' H'' p => ?_))
    · subst z
      have u := Tp.uniq _ _ hv' _ (s1.f.ex e4)
      have u' : (moversM W here).map PyData.int = (((last.take j).foldl (roundM W) (K', [])).2).map dI := PyData.list.inj u
      cases hm : moversM W here with
      | nil => rfl
      | cons a l =>
        rw [hm] at u'
        cases h2 : ((last.take j).foldl (roundM W) (K', [])).2 with
        | nil => rw [h2] at u'; cases u'
        | cons b l2 =>
          rw [h2] at u'
          have u2 : PyData.int a :: l.map .int = dI b :: l2.map dI := u'
          injection u2 with u3
          cases u3
    · obtain ⟨r1, r2, r3, r4, r5, o7, o8, rfl⟩ := p
      rw [List.getElem?_map] at hi
      cases hx : (moversM W here)[i]? with
      | none => rw [hx] at hi; cases hi
      | some x =>
        rw [hx] at hi
        have ed : PyData.int x = di := Option.some.inj hi
        subst ed
        have memx : x ∈ moversM W here := List.mem_of_getElem? hx
        have hxr := ah.lt x (List.mem_filter.mp memx).1
        have gi : Gd S m (((moversM W here).take i).foldl (stepM W here) ((last.take j).foldl (roundM W) (K', []))) := Gd.steps hhS (hlast here mem).2 _ (fun p hp => mem_take hp) gj
        have hsz := gi.small hS hn
        have hfl := gi.fl
        refine js_cons (j_set (i := 8) (d := dI (callM W here x)) scLSearch.nd (jd_call O2 (hr.mono (by decide)) (ja_cons (jd_var 0 (t1.ex r1.ex)) (ja_cons (jd_var 6 r4) (ja_cons (jd_var 7 hvp) ja_nil))) ⟨W, here, x, hW, ah, hxr, rfl, rfl⟩) fun vt H4 e4 tt => ?_)
        obtain ⟨kv4, k4, k4'⟩ := (r1.mono e4).kv
        refine js_one (j_if (jt_dnotin k4' hr.units (jd_var 8 tt) (jv_var 2 rfl) k4) (fun hb H5 e5 => ?_) (fun hb H5 e5 => ?_))
        · have nt : callM W here x ∉ (((moversM W here).take i).foldl (stepM W here) ((last.take j).foldl (roundM W) (K', []))).1 := by simpa using hb
          have lk4 := k4'.len
          refine js_cons (j_dput hr.units (jv_var 2 rfl) (jd_var 8 (tt.ex e5)) (jd_var 4 (.int (n + 1))) (e5 _ _ k4) (by omega) fun vn H6 e6 tn6 => ?_)
          have k6 : H6 d = some (.dT kv4) := e6 _ _ (e5 _ _ k4)
          have r16 := (r1.mono e4).mono (e5.trans e6)
          obtain ⟨xs6, hx6⟩ := lst_at r16.f
          have hne : fr ≠ d := fun z => by rw [z, k6] at hx6; cases hx6
          have t6 : Tx H6 (upd H6 d (.dT (putK kv4 (kI (callM W here x)) vn))) := Tx.upd fun xs z => by rw [k6] at z; cases z
          refine js_one (j_append (i := 5) (d := dI (callM W here x)) rfl (Km.upd.lst t6 hne r16.f (flt_A_I _)) (jd_var 8 ((tt.ex (e5.trans e6)).tx t6 (flt_I _))) (flt_I _) (flt_A_I _) (by rw [List.length_map]; omega) fun H7 km tx tl => ?_)
          have e46 := e4.trans (e5.trans e6)
          have lst2 : ∀ {v : V} {ds : List PyData}, Tp H'' v (.list ds) → fltA ds = true → v ≠ .ref fr → Tp H7 v (.list ds) := fun {v ds} h f n => by
            obtain ⟨a, xs, rfl, q1, q2⟩ := tp_lst h
            exact keep2 k6 km tx (h.ex e46) f fun z => n (by rw [z])
          refine ⟨?_, r2, ⟨r3.1, lst2 r3.2 (flt_A_I _) r3.1⟩, keepT k6 tx (r4.ex e46) (flt_I _), lst2 r5 (flt_A_int _) (fun z => by rw [r2 z] at memx; cases memx), _, _, rfl⟩
          rw [fold_take hx]
          have es : stepM W here (((moversM W here).take i).foldl (stepM W here) ((last.take j).foldl (roundM W) (K', []))) x = ((((moversM W here).take i).foldl (stepM W here) ((last.take j).foldl (roundM W) (K', []))).1 ++ [callM W here x], (((moversM W here).take i).foldl (stepM W here) ((last.take j).foldl (roundM W) (K', []))).2 ++ [callM W here x]) := if_neg nt
          rw [es]
          exact Sr.put hd0 hf0 r16 k6 k4' nt km tl
        · have yt : callM W here x ∈ (((moversM W here).take i).foldl (stepM W here) ((last.take j).foldl (roundM W) (K', []))).1 := by simpa using hb
          refine js_nil ⟨?_, r2, ⟨r3.1, r3.2.ex (e4.trans e5)⟩, r4.ex (e4.trans e5), r5.ex (e4.trans e5), _, _, rfl⟩
          rw [fold_take hx]
          have es : stepM W here (((moversM W here).take i).foldl (stepM W here) ((last.take j).foldl (roundM W) (K', []))) x = (((moversM W here).take i).foldl (stepM W here) ((last.take j).foldl (roundM W) (K', []))) := if_pos yt
          rw [es]
          exact r1.mono (e4.trans e5)
    · obtain ⟨r1, r2, r3, r4, r5, o7, o8, rfl⟩ := p
      rw [List.length_map, List.take_length] at r1
      refine ⟨?_, r3.1, r3.2, _, _, _, rfl⟩
      rw [fold_take hh]
      exact r1
  · obtain ⟨s1, s2, s3, o6, o7, o8, rfl⟩ := p
    rw [List.length_map, List.take_length] at s1
    refine js_one (j_setV (i := 3) scLSearch.nd (jv_var 5 rfl) fun H4 e4 => ?_)
    have s1' := s1.mono e4
    have gl : Gd S m (layerM W K' last) := Gd.rounds last hlast g0
    exact ⟨m, Nat.lt_succ_self _, (layerM W K' last).1, (layerM W K' last).2, .ref fr, n + 1, _, o6, o7, o8, rfl, s1'.ex, s1'.kv, s1'.f, gl, p5', by omega⟩
end
end TJ
set_option Elab.async false
set_option linter.all false
set_option maxRecDepth 100000
set_option maxHeartbeats 4000000
namespace TJ
open PySem PySem.Spec PyProof.Rows L2
open Evl (Ex fresh_back)
/-! ### what changes the row at R alone -/
def KR (R : Addr) (H H' : Hp) : Prop := Km R H H' ∧ Tx H H'
/-- a list that is read, not the one at R -/
def SqR (K : PySem.W.Frag) (H : Hp) (R a : Addr) (xs : List V) : Prop :=
  (Rd H a (.lst xs) ∧ a ≠ R) ∨ ∃ (o : Obj) (its : Array Value) (n : Nat), K.lookup a = some o ∧ o.cls = .type "list" ∧ o.dict = none ∧ o.data = .seq its n ∧ its.size ≤ sizeLine ∧ Vals xs its.toList
/-- the row of draws -/
structure Rw where
  ns : List Int
  scr : Addr
def Row (K : PySem.W.Frag) (ρ : Rw) (R : Addr) (H : Hp) : Prop :=
  ∃ (a b c : Int), H R = some (.lst [.ref ρ.scr, .int a, .int b, .int c]) ∧ SqR K H R ρ.scr (ρ.ns.map V.int) ∧ True ∧ 0 ≤ a ∧ 0 ≤ b ∧ b < 2147483647
section
variable {K : PySem.W.Frag} {ρ : Rw} {R : Addr} {H H' H'' : Hp}
theorem KR.of (e : Ex H H') : KR R H H' := ⟨Km.of e, Tx.of e⟩
theorem KR.trans (a : KR R H H') (b : KR R H' H'') : KR R H H'' := ⟨a.1.trans b.1, a.2.trans b.2⟩
theorem KR.ex (k : KR R H H') {H0 : Hp} (n : H0 R = none) (e : Ex H0 H) : Ex H0 H' := k.1.ex n e
theorem KR.upd {o : HO} {xs : List V} (h : H R = some (.lst xs)) : KR R H (upd H R o) := ⟨Km.upd, Tx.upd fun ys z => by rw [h] at z; cases z⟩
theorem rd_ex {a : Addr} {u : HO} (h : Rd H a u) (e : Ex H H') : Rd H' a u := by
  rcases h with h | ⟨o, h⟩
  · exact .inl (e _ _ h)
  · exact .inr ⟨o, e _ _ h⟩
theorem rd_km {a : Addr} {u : HO} (h : Rd H a u) (k : Km R H H') (n : a ≠ R) : Rd H' a u := by
  rcases h with h | ⟨o, h⟩
  · exact .inl (k _ _ n h)
  · exact .inr ⟨o, k _ _ n h⟩
theorem sq_ex {a : Addr} {xs : List V} (h : SqL K H a xs) (e : Ex H H') : SqL K H' a xs := h.imp (fun h => rd_ex h e) fun h => h
theorem SqR.sq {a : Addr} {xs : List V} (h : SqR K H R a xs) : SqL K H a xs := h.imp (fun h => h.1) fun h => h
theorem sqR_ex {a : Addr} {xs : List V} (h : SqR K H R a xs) (e : Ex H H') : SqR K H' R a xs := h.imp (fun h => ⟨rd_ex h.1 e, h.2⟩) fun h => h
theorem sqR_km {a : Addr} {xs : List V} (h : SqR K H R a xs) (k : Km R H H') (_ : True) : SqR K H' R a xs := h.imp (fun h => ⟨rd_km h.1 k h.2, h.2⟩) fun h => h
/-- from a list, R new -/
theorem sqR_of {a : Addr} {xs : List V} (h : SqL K H a xs) (n : H R = none) (e : Ex H H') : SqR K H' R a xs := by
  rcases h with h | h
  · refine .inl ⟨rd_ex h e, fun z => ?_⟩
    subst z
    rcases h with h | ⟨o, h⟩ <;> rw [n] at h <;> cases h
  · exact .inr h
theorem Row.ex (r : Row K ρ R H) (e : Ex H H') : Row K ρ R H' := by
  obtain ⟨a, b, c, h1, h2, h3, h4⟩ := r
  exact ⟨a, b, c, e _ _ h1, sqR_ex h2 e, h3, h4⟩
/-- the row isn't one of the other lists -/
theorem Row.notL (r : Row K ρ R H) {l : List Int} (h : Tp H (.ref R) (dL l)) : False := by
  obtain ⟨a, b, c, h1, _⟩ := r
  obtain ⟨t, xs, e, h2, h3⟩ := tp_lst h
  cases e
  rw [h1] at h2
  have e := h3.ints
  cases h2
  cases l with
  | nil => cases e
  | cons x l => injection e with e1 _; cases e1
theorem Row.notR (r : Row K ρ R H) {L : List (List Int)} (h : Tp H (.ref R) (dR L)) : False := by
  obtain ⟨a, b, c, h1, _⟩ := r
  obtain ⟨t, xs, e, h2, h3⟩ := tp_lst h
  cases e
  rw [h1] at h2
  cases h2
  cases L with
  | nil => cases h3
  | cons x L =>
    cases L with
    | nil =>
      cases h3 with
      | cons _ h3 => cases h3
    | cons y L =>
      cases h3 with
      | cons _ h3 =>
        cases h3 with
        | cons h4 _ => cases h4
theorem KR.tp {v : V} {d : PyData} (k : KR R H H') (h : Tp H v d) (f : flt d = true) : Tp H' v d := h.tx k.2 f
theorem KR.tL {v : V} {l : List Int} (k : KR R H H') (r : Row K ρ R H) (h : Tp H v (dL l)) : Tp H' v (dL l) := by
  obtain ⟨a, xs, rfl, _, _⟩ := tp_lst h
  exact k.1.lst k.2 (fun z => r.notL (z ▸ h)) h (flt_A_int l)
theorem KR.tR {v : V} {L : List (List Int)} (k : KR R H H') (r : Row K ρ R H) (h : Tp H v (dR L)) : Tp H' v (dR L) := by
  obtain ⟨a, xs, rfl, _, _⟩ := tp_lst h
  exact k.1.lst k.2 (fun z => r.notR (z ▸ h)) h (flt_A_I L)
theorem KR.dict {d : Addr} {kvs : List (List L2.Key × V)} (k : KR R H H') (r : Row K ρ R H) (h : H d = some (.dT kvs)) : H' d = some (.dT kvs) := by
  obtain ⟨a, b, c, h1, _⟩ := r
  exact k.1 _ _ (fun z => by rw [z, h1] at h; cases h) h
end
section
variable {X : Cx} {e a b c : Expr} {es : List Expr} {σ : L2.St} {H : Hp} {pos p p2 : Pos} {x : Str} {D : Ends}
/-! ### an expression that may draw -/
def tQ (R : Addr) (σ : L2.St) (H : Hp) (φ : V → Hp → Prop) : TE := fun σ' H1 Q => σ' = σ ∧ Ex H H1 ∧ ∀ v H2, KR R H1 H2 → φ v H2 → Q v H2
abbrev JQ (R : Addr) (X : Cx) (e : Expr) (σ : L2.St) (H : Hp) (φ : V → Hp → Prop) : Prop := PE X e (tQ R σ H φ)
theorem jq_mono {R : Addr} {φ ψ : V → Hp → Prop} (h : JQ R X e σ H φ) (k : ∀ v H', KR R H H' → φ v H' → ψ v H') : JQ R X e σ H ψ := PE.cq h fun σ' H1 Q q => by
  obtain ⟨rfl, e1, q⟩ := q
  exact ⟨rfl, e1, fun v H2 k2 hv => q v H2 k2 (k v H2 ((KR.of e1).trans k2) hv)⟩
/-- xs[n], by the value -/
theorem jv_ixL {n : Nat} {l : Addr} {xs : List V} {v : V} (ha : JV X a σ H (.ref l)) (hb : JD X b σ H (.int n)) (hl : H l = some (.lst xs)) (hv : xs[n]? = some v) (hs : PlainIx b := by exact fun _ _ => rfl) : JV X (.Subscript a b pos) σ H v := PE.cq (pe_ix ix_list ha hb hs) fun σ' H1 Q q => by
  obtain ⟨rfl, e1, q⟩ := q
  refine ⟨rfl, e1, fun x H2 e2 hx => ⟨rfl, e1.trans e2, fun y H3 e3 hy => ?_⟩⟩
  subst hx
  rw [tp_int hy]
  exact ⟨l, xs, _, v, rfl, rfl, SqL.of (((e1.trans e2).trans e3) _ _ hl), atI_nat hv, q _ _ (e2.trans e3) rfl⟩
/-- s[n], s the script -/
theorem jd_ixS {n : Nat} {l : Addr} {ns : List Int} {i : Int} (ha : JV X a σ H (.ref l)) (hb : JD X b σ H (.int n)) (hl : SqL X.K H l (ns.map V.int)) (hv : ns[n]? = some i) (hs : PlainIx b := by exact fun _ _ => rfl) : JD X (.Subscript a b pos) σ H (.int i) := PE.cq (pe_ix ix_list ha hb hs) fun σ' H1 Q q => by
  obtain ⟨rfl, e1, q⟩ := q
  refine ⟨rfl, e1, fun x H2 e2 hx => ⟨rfl, e1.trans e2, fun y H3 e3 hy => ?_⟩⟩
  subst hx
  rw [tp_int hy]
  exact ⟨l, _, _, .int i, rfl, rfl, sq_ex hl ((e1.trans e2).trans e3), atI_nat (by rw [List.getElem?_map, hv]; rfl), q _ _ (e2.trans e3) (.int i)⟩
theorem jd_lenS {l : Addr} {ns : List Int} (hm : X.mg "len" = none) (ha : JV X a σ H (.ref l)) (hl : SqL X.K H l (ns.map V.int)) (hg : Gl X "len" := by rfl) (he : starEach [a] X.env = (false, eval a X.env) :: starEach [] X.env := by rfl) :
    JD X (.Call (.Name "len" p) [a] [] p2) σ H (.int ns.length) := PE.cq (pe_callB call_len hg hm bt_len (pa_cons ha pa_nil he) (by decide) (by decide) he (by rfl)) fun σ' H1 Q q => by
  obtain ⟨rfl, e1, q⟩ := q
  refine ⟨rfl, e1, fun v H2 e2 hv => ?_⟩
  subst hv
  refine ⟨_, _, rfl, .inl ⟨_, sq_ex hl (e1.trans e2), rfl⟩, ?_⟩
  rw [List.length_map]
  exact q _ _ e2 (.int _)
theorem jd_int1 {i : Int} (hm : X.mg "int" = none) (ha : JD X a σ H (.int i)) (hg : Gl X "int" := by rfl) (he : starEach [a] X.env = (false, eval a X.env) :: starEach [] X.env := by rfl) : JD X (.Call (.Name "int" p) [a] [] p2) σ H (.int i) := PE.cq (pe_callTy call_int1 hg hm bt_int (pa_cons ha pa_nil he) (by decide) (by decide) he (by rfl)) fun σ' H1 Q q => by
  obtain ⟨rfl, e1, q⟩ := q
  refine ⟨rfl, e1, fun v H2 e2 hv => ?_⟩
  rw [tp_int hv]
  exact .inl ⟨i, rfl, q _ _ e2 (.int _)⟩
/-- xs[n] = i -/
theorem j_lput {n : Nat} {l : Addr} {xs : List V} {i : Int} {pos' : Pos} (ha : JV X a σ H (.ref l)) (hb : JD X b σ H (.int n)) (he : JD X e σ H (.int i)) (hl : H l = some (.lst xs)) (hn : n < xs.length) (k : ∀ H1, Ex H H1 → D.nx σ (upd H1 l (.lst (xs.set n (.int i)))))
    (hp : ∀ v, assign (.Subscript a b pos') X.env v = (do
      let ov ← holding [v] (eval a X.env)
      let iv ← holding [v, ov] (eval b X.env)
      standAt pos'
      holding [v, ov, iv] (setItem ov iv v)
      release [v, ov, iv] []) := by intro _; rfl)
    (hs : swapsWithSole [.Subscript a b pos'] e pos.line X.env = pure false := by rfl) (hw : swappedStores [.Subscript a b pos'] e X.env = pure none := by rfl)
    (h1 : (assignEach [.Subscript a b pos'] X.env).map (·.2) = [assign (.Subscript a b pos') X.env] := by rfl) : J1 X (.Assign [.Subscript a b pos'] e pos) σ H D :=
  PS.cq (ps_asg he (pg_sub ha hb set_list hp) hs hw h1) fun D' σ' H' q => by
    obtain ⟨rfl, rfl, rfl⟩ := q
    refine ⟨rfl, Ex.refl _, fun v H1 e1 hv => ⟨rfl, e1, fun u H2 e2 hu => ⟨rfl, e1.trans e2, fun y H3 e3 hy => ?_⟩⟩⟩
    subst hu
    rw [tp_int hv, tp_int hy]
    exact ⟨l, xs, _, n, rfl, rfl, ((e1.trans e2).trans e3) _ _ hl, Evl.ixN_nat hn, k H3 ((e1.trans e2).trans e3)⟩
end
/-! ### _law_taken -/
def spTaken (K : PySem.W.Frag) (ρ : Rw) : Sp := fun vs H Q _ => ∃ (R : Addr) (m : Int), vs = [.ref R, .int m] ∧ 1 ≤ m ∧ m < 1073741824 ∧ Row K ρ R H ∧ ∀ r H', 0 ≤ r → r < m → KR R H H' → Row K ρ R H' → Q (.int r) H'
section
variable {P : Program} {w : World} {K : PySem.W.Frag} {mg : Str → Option Value} {base : Heap}
abbrev sTaken : Stmt := topS 43
theorem scTaken : FnScope ["_law_row", "_law_many", "_law_found", "_law_cell"] ["_law_row", "_law_many"] (defScope sTaken) := ⟨rfl, rfl, rfl, by decide +kernel, rfl, by decide +kernel, by decide +kernel⟩
theorem ok_taken {ρ : Rw} (B : Bt mg) (F : Df K mg "_law_taken" sTaken ["_law_row", "_law_many"]) : OkC P w K mg base CX0 "_law_taken" 1 ["_law_row", "_law_many"] (spTaken K ρ) := by
  refine ok_defS F scTaken (fun vs H Q E h => by obtain ⟨R, m, rfl, _⟩ := h; rfl) (fun f cdv A outer s H E vs Q hr hR => ?_)
  obtain ⟨R, m, rfl, m1, m2, ⟨a, b, c, hRw, hS, hn, a0, b0, b1⟩, q⟩ := hR
  obtain ⟨ns, scr⟩ := ρ
  dsimp only at hRw hS
  have hcd : CDiv c m := ⟨by omega, m2⟩
  refine js_cons (j_if (jt_gt (jd_v (jv_ixL (n := 3) (jv_var 0 rfl) jd_int hRw rfl) (.int c)) jd_int) (fun hb H1 e1 => ?_) (fun hb H1 e1 => js_nil ?_))
  · have hR1 := e1 _ _ hRw
    refine js_cons (j_set (i := 2) scTaken.nd (jd_mod (jd_int1 B.int (jd_v (jv_ixL (n := 3) (jv_var 0 rfl) jd_int hR1 rfl) (.int c))) (jd_var 1 (.int m)) (by omega)) fun v H2 e2 hv => ?_)
    rw [tp_int hv]
    have hR2 := e2 _ _ hR1
    refine js_cons (j_lput (n := 3) (i := c / m) (jv_var 0 rfl) jd_int (jd_fdiv (jd_v (jv_ixL (n := 3) (jv_var 0 rfl) jd_int hR2 rfl) (.int c)) (jd_var 1 (.int m)) hcd) hR2 (by simp) fun H3 e3 => ?_)
    have e13 := (e1.trans e2).trans e3
    have hR3 := e13 _ _ hRw
    refine js_one (j_retV (jv_var 2 rfl) fun H4 e4 => q _ _ (Int.emod_nonneg _ (by omega)) (Int.emod_lt_of_pos _ (by omega)) (((KR.of e13).trans (KR.upd hR3)).trans (KR.of e4)) (Row.ex ⟨a, b, _, upd_same, sqR_km (sqR_ex hS e13) Km.upd hn, hn, a0, b0, b1⟩ e4))
  · have hR1 := e1 _ _ hRw
    refine js_cons (j_lput (n := 1) (i := a + 1) (jv_var 0 rfl) jd_int (jd_add (jd_v (jv_ixL (n := 1) (jv_var 0 rfl) jd_int hR1 rfl) (.int a)) jd_int) hR1 (by simp) fun H2 e2 => ?_)
    have e12 := e1.trans e2
    have hR2 := e12 _ _ hRw
    have k2 : KR R H (upd H2 R (.lst [.ref scr, .int (a + 1), .int b, .int c])) := (KR.of e12).trans (KR.upd hR2)
    have hS2 : SqR K (upd H2 R (.lst [.ref scr, .int (a + 1), .int b, .int c])) R scr (ns.map V.int) := sqR_km (sqR_ex hS e12) Km.upd hn
    generalize hH3 : upd H2 R (.lst [.ref scr, .int (a + 1), .int b, .int c]) = H3 at k2 hS2
    have hR3 : H3 R = some (.lst [.ref scr, .int (a + 1), .int b, .int c]) := by rw [← hH3]; exact upd_same
    have hgoal : ([V.ref scr, .int a, .int b, .int c].set 1 (.int (a + 1))) = [V.ref scr, .int (a + 1), .int b, .int c] := rfl
    rw [hgoal, hH3]
    refine js_cons (j_if (jt_gt (jd_v (jv_ixL (n := 1) (jv_var 0 rfl) jd_int hR3 rfl) (.int _)) (jd_lenS B.len (jv_ixL (n := 0) (jv_var 0 rfl) jd_int hR3 rfl) hS2.sq)) (fun hb2 H4 e4 => ?_) (fun hb2 H4 e4 => js_nil ?_))
    · have hR4 := e4 _ _ hR3
      refine js_cons (j_lput (n := 2) (i := (b * 48271 + 11) % 2147483647) (jv_var 0 rfl) jd_int (jd_mod (jd_int1 B.int (jd_add (jd_mul (jd_v (jv_ixL (n := 2) (jv_var 0 rfl) jd_int hR4 rfl) (.int b)) jd_int (.inr ⟨by decide, by decide⟩)) jd_int)) jd_int (by decide)) hR4 (by simp) fun H5 e5 => ?_)
      have e45 := e4.trans e5
      have hR5 := e45 _ _ hR3
      refine js_one (j_ret (d := .int ((((b * 48271 + 11) % 2147483647) / 7) % m)) (jd_mod (jd_int1 B.int (jd_fdiv (jd_v (jv_ixL (n := 2) (jv_var 0 rfl) jd_int upd_same rfl) (.int _)) jd_int ⟨by decide, by decide⟩)) (jd_var 1 (.int m)) (by omega)) fun v H6 e6 hv => ?_)
      rw [tp_int hv]
      exact q _ _ (Int.emod_nonneg _ (by omega)) (Int.emod_lt_of_pos _ (by omega)) ((k2.trans ((KR.of e45).trans (KR.upd hR5))).trans (KR.of e6)) (Row.ex ⟨a + 1, _, c, upd_same, sqR_km (sqR_ex hS2 e45) Km.upd hn, hn, by omega, Int.emod_nonneg _ (by decide), Int.emod_lt_of_pos _ (by decide)⟩ e6)
    · have hR4 := e4 _ _ hR3
      have hlen : a + 1 ≤ (ns.length : Int) := by simpa using hb2
      have hidx : a.toNat < ns.length := by omega
      have hS4 := sqR_ex hS2 e4
      refine js_cons (j_set (i := 3) (d := .int ns[a.toNat]) scTaken.nd (jd_ixS (n := a.toNat) (jv_ixL (n := 0) (jv_var 0 rfl) jd_int hR4 rfl) (jd_is (jd_sub (jd_v (jv_ixL (n := 1) (jv_var 0 rfl) jd_int hR4 rfl) (.int _)) jd_int) (by rw [Int.toNat_of_nonneg a0]; congr 1; omega)) hS4.sq (List.getElem?_eq_getElem hidx)) fun v H5 e5 hv => ?_)
      rw [tp_int hv]
      have e45 := e4.trans e5
      have hR5 := e45 _ _ hR3
      refine js_cons (j_lput (n := 2) (i := (b * 48271 + ns[a.toNat] + 11) % 2147483647) (jv_var 0 rfl) jd_int (jd_mod (jd_int1 B.int (jd_add (jd_add (jd_mul (jd_v (jv_ixL (n := 2) (jv_var 0 rfl) jd_int hR5 rfl) (.int b)) jd_int (.inr ⟨by decide, by decide⟩)) (jd_var 3 (.int _))) jd_int)) jd_int (by decide)) hR5 (by simp) fun H6 e6 => ?_)
      have e46 := e45.trans e6
      have hR6 := e46 _ _ hR3
      have k6 : KR R H (upd H6 R (.lst [.ref scr, .int (a + 1), .int ((b * 48271 + ns[a.toNat] + 11) % 2147483647), .int c])) := k2.trans ((KR.of e46).trans (KR.upd hR6))
      have hS6 : SqR K (upd H6 R (.lst [.ref scr, .int (a + 1), .int ((b * 48271 + ns[a.toNat] + 11) % 2147483647), .int c])) R scr (ns.map V.int) := sqR_km (sqR_ex hS2 e46) Km.upd hn
      generalize hH7 : upd H6 R (.lst [.ref scr, .int (a + 1), .int ((b * 48271 + ns[a.toNat] + 11) % 2147483647), .int c]) = H7 at k6 hS6
      have hR7 : H7 R = some (.lst [.ref scr, .int (a + 1), .int ((b * 48271 + ns[a.toNat] + 11) % 2147483647), .int c]) := by rw [← hH7]; exact upd_same
      have hg2 : ([V.ref scr, .int (a + 1), .int b, .int c].set 2 (.int ((b * 48271 + ns[a.toNat] + 11) % 2147483647))) = [V.ref scr, .int (a + 1), .int ((b * 48271 + ns[a.toNat] + 11) % 2147483647), .int c] := rfl
      rw [hg2, hH7]
      have hb' : 0 ≤ (b * 48271 + ns[a.toNat] + 11) % 2147483647 := Int.emod_nonneg _ (by decide)
      have hb'' : (b * 48271 + ns[a.toNat] + 11) % 2147483647 < 2147483647 := Int.emod_lt_of_pos _ (by decide)
      refine js_cons (j_if (jt_ge (jd_var 3 (.int _)) (jd_pow jd_int jd_int ⟨by decide, by decide, by decide⟩)) (fun hb3 H8 e8 => ?_) (fun hb3 H8 e8 => js_nil ?_))
      · have hR8 := e8 _ _ hR7
        refine js_one (j_lput (n := 3) (i := ns[a.toNat] / m) (jv_var 0 rfl) jd_int (jd_fdiv (jd_var 3 (.int _)) (jd_var 1 (.int m)) ⟨by omega, m2⟩) hR8 (by simp) fun H9 e9 => ?_)
        have e89 := e8.trans e9
        have k8 := (k6.trans (KR.of e89)).trans (KR.upd (o := .lst [.ref scr, .int (a + 1), .int ((b * 48271 + ns[a.toNat] + 11) % 2147483647), .int (ns[a.toNat] / m)]) (e89 _ _ hR7))
        have r8 : Row K ⟨ns, scr⟩ R (upd H9 R (.lst [.ref scr, .int (a + 1), .int ((b * 48271 + ns[a.toNat] + 11) % 2147483647), .int (ns[a.toNat] / m)])) := ⟨a + 1, _, _, upd_same, sqR_km (sqR_ex hS6 e89) Km.upd hn, hn, by omega, hb', hb''⟩
        refine js_one (j_ret (d := .int (ns[a.toNat] % m)) (jd_mod (jd_int1 B.int (jd_var 3 (.int _))) (jd_var 1 (.int m)) (by omega)) fun v H10 e10 hv => ?_)
        rw [tp_int hv]
        exact q _ _ (Int.emod_nonneg _ (by omega)) (Int.emod_lt_of_pos _ (by omega)) (k8.trans (KR.of e10)) (r8.ex e10)
      · have k8 := k6.trans (KR.of e8)
        have r8 : Row K ⟨ns, scr⟩ R H8 := Row.ex ⟨a + 1, _, c, hR7, hS6, hn, by omega, hb', hb''⟩ e8
        refine js_one (j_ret (d := .int (ns[a.toNat] % m)) (jd_mod (jd_int1 B.int (jd_var 3 (.int _))) (jd_var 1 (.int m)) (by omega)) fun v H10 e10 hv => ?_)
        rw [tp_int hv]
        exact q _ _ (Int.emod_nonneg _ (by omega)) (Int.emod_lt_of_pos _ (by omega)) (k8.trans (KR.of e10)) (r8.ex e10)
end
end TJ
set_option Elab.async false
set_option linter.all false
set_option maxRecDepth 100000
set_option maxHeartbeats 4000000
namespace TJ
open PySem PySem.Spec PyProof.Rows L2
open Evl (Ex fresh_back)
/-! ### comprehensions whose turns may draw -/
/-- a test that may draw -/
def tTQ (R : Addr) (σ : L2.St) (H : Hp) (ψ : Bool → Hp → Prop) : TT := fun σ' H1 Q => σ' = σ ∧ Ex H H1 ∧ ∀ b H2, KR R H1 H2 → ψ b H2 → Q b H2
/-- what the new list is behind i turns -/
structure Lq (K : PySem.W.Frag) (ρ : Rw) (R : Addr) (I : Nat → List PyData → Prop) (H2 : Hp) (D : Addr) (i : Nat) (H' : Hp) : Prop where
  nD : H2 D = none
  ne : D ≠ R
  r2 : Row K ρ R H2
  kr : KR R H2 H'
  row : Row K ρ R H'
  acc : ∃ acc ds, H' D = some (.lst acc) ∧ TpA H' acc ds ∧ fltA ds = true ∧ I i ds ∧ ds.length ≤ i
structure LqOk (X : Cx) (elt : Expr) (ifs : List Expr) (scope : Scope) (iv : Nat) (σ : L2.St) (H : Hp) (ρ : Rw) (R : Addr) (n : Nat) (Pi : Nat → V → Prop) (ψ : Bool → Prop) (φ : Nat → PyData → Prop) (I : Nat → List PyData → Prop) : Prop where
  len : n ≤ 1000
  i0 : I 0 []
  skip : ∀ i ds, i < n → ψ false → I i ds → I (i + 1) ds
  take : ∀ i ds d, i < n → φ i d → I i ds → I (i + 1) (ds ++ [d])
  test : ∀ (s0 : Shared) (H0 : Hp) (C : Addr) (cl : List (Str × Addr)) (fp : List Addr) (i : Nat) (x : V) (H' : Hp), i < n → Pi i x → KR R H H' → Row X.K ρ R H' → PTs (X.blk s0 H0 scope (compEnvC scope cl C X.env) fp) ifs (tTQ R ((wipe σ [iv]).set iv (some x)) H' fun b H'' => ψ b ∧ Row X.K ρ R H'')
  elt : ∀ (s0 : Shared) (H0 : Hp) (C : Addr) (cl : List (Str × Addr)) (fp : List Addr) (i : Nat) (x : V) (H' : Hp), i < n → Pi i x → KR R H H' → Row X.K ρ R H' → JQ R (X.blk s0 H0 scope (compEnvC scope cl C X.env) fp) elt ((wipe σ [iv]).set iv (some x)) H' fun v H'' => Row X.K ρ R H'' ∧ ∃ d, flt d = true ∧ φ i d ∧ Tp H'' v d
/-- the index of a turn -/
structure Iq (K : PySem.W.Frag) (ρ : Rw) (R : Addr) (n : Nat) (Pi : Nat → V → Prop) (H : Hp) where
  i : Nat
  x : V
  H' : Hp
  lt : i < n
  pi : Pi i x
  kr : KR R H H'
  row : Row K ρ R H'
def ttQ (K : PySem.W.Frag) (ρ : Rw) (R : Addr) (n : Nat) (Pi : Nat → V → Prop) (ψ : Bool → Prop) (iv : Nat) (σ : L2.St) (H : Hp) : TT := fun σ2 H2 Q => ∃ z : Iq K ρ R n Pi H, tTQ R ((wipe σ [iv]).set iv (some z.x)) z.H' (fun b H'' => ψ b ∧ Row K ρ R H'') σ2 H2 Q
def teQ (K : PySem.W.Frag) (ρ : Rw) (R : Addr) (n : Nat) (Pi : Nat → V → Prop) (φ : Nat → PyData → Prop) (iv : Nat) (σ : L2.St) (H : Hp) : TE := fun σ2 H2 Q => ∃ z : Iq K ρ R n Pi H, tQ R ((wipe σ [iv]).set iv (some z.x)) z.H' (fun v H'' => Row K ρ R H'' ∧ ∃ d, flt d = true ∧ φ z.i d ∧ Tp H'' v d) σ2 H2 Q
section
variable {X : Cx} {e a b c : Expr} {es : List Expr} {σ : L2.St} {H : Hp} {pos p p2 : Pos} {x : Str} {D : Ends}
theorem lq_tests {elt : Expr} {ifs : List Expr} {scope : Scope} {iv : Nat} {ρ : Rw} {R : Addr} {n : Nat} {Pi : Nat → V → Prop} {ψ : Bool → Prop} {φ : Nat → PyData → Prop} {I : Nat → List PyData → Prop} (L : LqOk X elt ifs scope iv σ H ρ R n Pi ψ φ I) (s0 : Shared) (H0 : Hp) (C : Addr) (cl : List (Str × Addr)) (fp : List Addr) :
    PTs (X.blk s0 H0 scope (compEnvC scope cl C X.env) fp) ifs (ttQ X.K ρ R n Pi ψ iv σ H) := PTs.fam fun z => L.test s0 H0 C cl fp z.i z.x z.H' z.lt z.pi z.kr z.row
theorem lq_elts {elt : Expr} {ifs : List Expr} {scope : Scope} {iv : Nat} {ρ : Rw} {R : Addr} {n : Nat} {Pi : Nat → V → Prop} {ψ : Bool → Prop} {φ : Nat → PyData → Prop} {I : Nat → List PyData → Prop} (L : LqOk X elt ifs scope iv σ H ρ R n Pi ψ φ I) (s0 : Shared) (H0 : Hp) (C : Addr) (cl : List (Str × Addr)) (fp : List Addr) :
    PE (X.blk s0 H0 scope (compEnvC scope cl C X.env) fp) elt (teQ X.K ρ R n Pi φ iv σ H) := PE.fam fun z => L.elt s0 H0 C cl fp z.i z.x z.H' z.lt z.pi z.kr z.row
theorem sq_updD {K : PySem.W.Frag} {H2 H4 : Hp} {R D scr : Addr} {o : HO} {xs : List V} (h : SqR K H2 R scr xs) (n : H2 D = none) (h4 : SqR K H4 R scr xs) : SqR K (upd H4 D o) R scr xs := by
  rcases h with h | h
  · have ne : scr ≠ D := fun e => by
      subst e
      rcases h.1 with h | ⟨o, h⟩ <;> rw [n] at h <;> cases h
    rcases h4 with h4 | h4
    · refine .inl ⟨?_, h4.2⟩
      rcases h4.1 with h4 | ⟨o', h4⟩
      · exact .inl (by rw [upd_ne ne]; exact h4)
      · exact .inr ⟨o', by rw [upd_ne ne]; exact h4⟩
    · exact .inr h4
  · exact .inr h
theorem Row.updD {K : PySem.W.Frag} {ρ : Rw} {R D : Addr} {H2 H4 : Hp} {o : HO} (r2 : Row K ρ R H2) (n : H2 D = none) (ne : D ≠ R) (r4 : Row K ρ R H4) : Row K ρ R (upd H4 D o) := by
  obtain ⟨a, b, c, h1, h2, h3, h4⟩ := r4
  obtain ⟨_, _, _, _, q2, _⟩ := r2
  exact ⟨a, b, c, by rw [upd_ne (Ne.symm ne)]; exact h1, sq_updD q2 n h2, h3, h4⟩
theorem KR.updD {R D : Addr} {H2 H4 : Hp} {o : HO} (k : KR R H2 H4) (n : H2 D = none) : KR R H2 (L2.upd H4 D o) := by
  have key : ∀ a u, H2 a = some u → a ≠ D := fun a u h z => by rw [z, n] at h; cases h
  exact ⟨fun a u na h => by rw [upd_ne (key a u h)]; exact k.1 a u na h, fun a xs h => by rw [upd_ne (key a _ h)]; exact k.2 a xs h⟩
/-- one turn -/
theorem lq_turn {elt : Expr} {ifs : List Expr} {scope : Scope} {iv : Nat} {ρ : Rw} {R : Addr} {n : Nat} {Pi : Nat → V → Prop} {ψ : Bool → Prop} {φ : Nat → PyData → Prop} {I : Nat → List PyData → Prop} (L : LqOk X elt ifs scope iv σ H ρ R n Pi ψ φ I)
    {H2 H' : Hp} {Dd : Addr} {i : Nat} {x : V} (e2 : Ex H H2) (hi : i < n) (hx : Pi i x) (p : Lq X.K ρ R I H2 Dd i H') : ttQ X.K ρ R n Pi ψ iv σ H ((wipe σ [iv]).set iv (some x)) H' fun b H3 =>
      if b = true then teQ X.K ρ R n Pi φ iv σ H ((wipe σ [iv]).set iv (some x)) H3 fun y H4 => ∃ acc, H4 Dd = some (.lst acc) ∧ acc.length < sizeLine ∧ Lq X.K ρ R I H2 Dd (i + 1) (upd H4 Dd (.lst (acc ++ [y]))) else Lq X.K ρ R I H2 Dd (i + 1) H3 := by
  have kr0 : KR R H H' := (KR.of e2).trans p.kr
  refine ⟨⟨i, x, H', hi, hx, kr0, p.row⟩, rfl, Ex.refl _, fun b H3 k3 hb => ?_⟩
  obtain ⟨hψ, r3⟩ := hb
  obtain ⟨acc, ds, h1, h2, h3, h4, h5⟩ := p.acc
  have hl := L.len
  have a3 : H3 Dd = some (.lst acc) := k3.1 _ _ p.ne h1
  have t3 : TpA H3 acc ds := h2.tx k3.2 h3
  cases b with
  | false =>
    refine iteF ⟨p.nD, p.ne, p.r2, p.kr.trans k3, r3, acc, ds, a3, t3, h3, L.skip i ds hi hψ h4, by omega⟩
  | true =>
    refine iteT ⟨⟨i, x, H3, hi, hx, kr0.trans k3, r3⟩, rfl, Ex.refl _, fun v H4 k4 hv => ?_⟩
    obtain ⟨r4, d, fd, hφ, tv⟩ := hv
    have a4 : H4 Dd = some (.lst acc) := k4.1 _ _ p.ne a3
    have t4 : TpA H4 acc ds := t3.tx k4.2 h3
    have hD : ∀ xs, H4 Dd ≠ some (.tup xs) := fun xs z => by rw [a4] at z; cases z
    refine ⟨acc, a4, sz2 (by rw [h2.len]; omega), p.nD, p.ne, p.r2, ((p.kr.trans k3).trans k4).updD p.nD, p.r2.updD p.nD p.ne r4, acc ++ [v], ds ++ [d], upd_same, (t4.upd h3 hD).snoc (tv.upd fd hD), ?_, L.take i ds d hi hφ h4, by rw [List.length_append]; simp; exact h5⟩
    have key : ∀ l : List PyData, fltA l = true → fltA (l ++ [d]) = true := fun l => by
      induction l with
      | nil => intro _; show fltA [d] = true; rw [fltA, fd]; rfl
      | cons y l ih =>
        intro h
        obtain ⟨f1, f2⟩ := flt_cons h
        show fltA (y :: (l ++ [d])) = true
        rw [fltA, f1, ih f2]
        rfl
    exact key ds h3
/-- what comes of it -/
abbrev φList (K : PySem.W.Frag) (ρ : Rw) (R : Addr) (n : Nat) (I : Nat → List PyData → Prop) (v : V) (H' : Hp) : Prop := Row K ρ R H' ∧ ∃ ds, I n ds ∧ fltA ds = true ∧ ds.length ≤ n ∧ Tp H' v (.list ds)
theorem lq_start {K : PySem.W.Frag} {ρ : Rw} {R D : Addr} {I : Nat → List PyData → Prop} {H2 : Hp} (hD : H2 D = none) (r : Row K ρ R H2) (i0 : I 0 []) : Lq K ρ R I H2 D 0 (upd H2 D (.lst [])) := by
  have ne : D ≠ R := fun z => by
    obtain ⟨_, _, _, q, _⟩ := r
    rw [z, q] at hD
    cases hD
  exact ⟨hD, ne, r, KR.of (Ex.nw hD), r.ex (Ex.nw hD), [], [], upd_same, .nil, rfl, i0, Nat.le_refl _⟩
theorem lq_readR {lo : Int} {n : Nat} {elt : Expr} {ifs : List Expr} {scope : Scope} {iv : Nat} {ρ : Rw} {R : Addr} {ψ : Bool → Prop} {φ : Nat → PyData → Prop} {I : Nat → List PyData → Prop} (r : Row X.K ρ R H) (L : LqOk X elt ifs scope iv σ H ρ R n (fun i x => x = .int (lo + (i : Nat))) ψ φ I)
    {H1 : Hp} {Q : VK} (e1 : Ex H H1) (q : ∀ v H2, KR R H1 H2 → φList X.K ρ R n I v H2 → Q v H2) : ∀ D, H1 D = none → ∃ W : Nat → Nat → Hp → Prop, (∃ m, W 0 m (upd H1 D (.lst []))) ∧ ∀ i m H3, W i m H3 →
  ((Itr lo n).stop i H3 ∧ Q (.ref D) H3) ∨ ((Itr lo n).go i H3 ∧ ∃ Nx : Hp → Prop, (∀ H', Nx H' → ∃ m', m' < m ∧ W (i + 1) m' H') ∧ ∀ x H', (Itr lo n).yld i H3 x H' → gName iv x (wipe σ [iv]) H' fun σ2 H2 => wipe σ2 [iv] = wipe σ [iv] ∧ ttQ X.K ρ R n (fun i x => x = .int (lo + (i : Nat))) ψ iv σ H σ2 H2 fun b H3 =>
    if b = true then teQ X.K ρ R n (fun i x => x = .int (lo + (i : Nat))) φ iv σ H σ2 H3 fun y H4 => ∃ acc, H4 D = some (.lst acc) ∧ acc.length < sizeLine ∧ Nx (upd H4 D (.lst (acc ++ [y]))) else Nx H3) := fun D hD =>
  lc_range (lo := lo) (n := n) (fun j H' => Lq X.K ρ R I H1 D j H') (lq_start hD (r.ex e1) L.i0) (fun j H' hj p => ⟨wipe1 _ _ _, lq_turn L e1 hj rfl p⟩) fun H' p => by
    obtain ⟨acc, ds, h1, h2, h3, h4, h5⟩ := p.acc
    exact q _ _ p.kr ⟨p.row, ds, h4, h3, h5, .lst h1 h2⟩
/-- [elt for y in range(n) if ..] -/
theorem jq_lcR {elt : Expr} {ifs : List Expr} {scope : Scope} {y : Str} {py p2 p3 : Pos} {iv n : Nat} {ρ : Rw} {R : Addr} {ψ : Bool → Prop} {φ : Nat → PyData → Prop} {I : Nat → List PyData → Prop} (nd : X.N.Nodup) (hm : X.mg "range" = none) (ha : JD X a σ H (.int n)) (r : Row X.K ρ R H) (L : LqOk X elt ifs scope iv σ H ρ R n (fun i x => x = .int (0 + (i : Nat))) ψ φ I)
    (hg : Gl X "range" := by rfl) (he : starEach [a] X.env = [(false, eval a X.env)] := by rfl)
    (hc : X.calm = true := by rfl) (ok : blkC X.N X.env.scope scope [(y, iv)] = true := by kernel_rfl) (hN : X.N[iv]? = some y := by rfl) (hy : ∀ C cl, Loc (compEnvC scope cl C X.env).scope y := by first | (intros; exact Or.inl rfl) | (intros; exact Or.inr rfl)) (hyf : ∀ s0 H0 C cl fp, (X.blk s0 H0 scope (compEnvC scope cl C X.env) fp).fn y = true ∨ (compEnvC scope cl C X.env).scope.names.lookup y = some .local := by first | (intros; exact Or.inr rfl) | (intros; exact Or.inl rfl)) (hs : ∀ x, foldedSetIterable (.Call (.Name "range" p2) [a] [] p3) X.env x = pure x := by intro _; rfl) :
    JQ R X (.ListComp elt [⟨.Name y py, .Call (.Name "range" p2) [a] [] p3, ifs, 0⟩] scope pos) σ H (φList X.K ρ R n I) :=
  PE.cq (pe_lc (own := [(y, iv)]) (g := gName iv) hc nd (pi_range1 hg hm (ja_cons ha ja_nil he) he) (blkOk_by ok) (fun s0 H0 C cl fp => pg_name nd hN (hy C cl) (hyf s0 H0 C cl fp)) (fun s0 H0 C cl fp => lq_tests L s0 H0 C cl fp) (fun s0 H0 C cl fp => lq_elts L s0 H0 C cl fp) hs) fun σ' H1 Q q => by
    obtain ⟨rfl, e1, q⟩ := q
    refine ⟨rfl, e1, fun vs H2 e2 hv => ?_⟩
    obtain ⟨v, rfl, hv1⟩ := tpA1 hv
    rw [tp_int hv1]
    have hn := L.len
    refine ⟨n, rfl, by omega, by omega, ?_⟩
    rw [show ((n : Int)).toNat = n by simp]
    exact lq_readR r L (e1.trans e2) fun v H3 k3 hv3 => q v H3 ((KR.of e2).trans k3) hv3
/-- [elt for y in range(lo, hi) if ..] -/
theorem jq_lcR2 {elt : Expr} {ifs : List Expr} {scope : Scope} {y : Str} {py p2 p3 : Pos} {iv n : Nat} {lo hi : Int} {ρ : Rw} {R : Addr} {ψ : Bool → Prop} {φ : Nat → PyData → Prop} {I : Nat → List PyData → Prop} (nd : X.N.Nodup) (hm : X.mg "range" = none) (ha : JD X a σ H (.int lo)) (hb : JD X b σ H (.int hi)) (hlo : 0 ≤ lo ∧ lo < 1000 ∧ 0 ≤ hi ∧ hi < 1000) (hn : (hi - lo).toNat = n) (r : Row X.K ρ R H) (L : LqOk X elt ifs scope iv σ H ρ R n (fun i x => x = .int (lo + (i : Nat))) ψ φ I)
    (hg : Gl X "range" := by rfl) (he : starEach [a, b] X.env = [(false, eval a X.env), (false, eval b X.env)] := by rfl) (he2 : starEach [b] X.env = [(false, eval b X.env)] := by rfl)
    (hc : X.calm = true := by rfl) (ok : blkC X.N X.env.scope scope [(y, iv)] = true := by kernel_rfl) (hN : X.N[iv]? = some y := by rfl) (hy : ∀ C cl, Loc (compEnvC scope cl C X.env).scope y := by first | (intros; exact Or.inl rfl) | (intros; exact Or.inr rfl)) (hyf : ∀ s0 H0 C cl fp, (X.blk s0 H0 scope (compEnvC scope cl C X.env) fp).fn y = true ∨ (compEnvC scope cl C X.env).scope.names.lookup y = some .local := by first | (intros; exact Or.inr rfl) | (intros; exact Or.inl rfl)) (hs : ∀ x, foldedSetIterable (.Call (.Name "range" p2) [a, b] [] p3) X.env x = pure x := by intro _; rfl) :
    JQ R X (.ListComp elt [⟨.Name y py, .Call (.Name "range" p2) [a, b] [] p3, ifs, 0⟩] scope pos) σ H (φList X.K ρ R n I) :=
  PE.cq (pe_lc (own := [(y, iv)]) (g := gName iv) hc nd (pi_range2 hg hm (ja_cons ha (ja_cons hb ja_nil he2) (he.trans (by rw [he2]))) he he2) (blkOk_by ok) (fun s0 H0 C cl fp => pg_name nd hN (hy C cl) (hyf s0 H0 C cl fp)) (fun s0 H0 C cl fp => lq_tests L s0 H0 C cl fp) (fun s0 H0 C cl fp => lq_elts L s0 H0 C cl fp) hs) fun σ' H1 Q q => by
    obtain ⟨rfl, e1, q⟩ := q
    refine ⟨rfl, e1, fun vs H2 e2 hv => ?_⟩
    obtain ⟨v, v', rfl, hv1, hv2⟩ := tpA2 hv
    rw [tp_int hv1, tp_int hv2]
    refine ⟨lo, hi, rfl, by omega, ?_⟩
    rw [hn]
    exact lq_readR r L (e1.trans e2) fun v H3 k3 hv3 => q v H3 ((KR.of e2).trans k3) hv3
/-- [elt for y in t], t a tuple -/
theorem jq_lcT {elt iter : Expr} {ifs : List Expr} {scope : Scope} {y : Str} {py : Pos} {iv : Nat} {ds0 : List PyData} {ρ : Rw} {R : Addr} {ψ : Bool → Prop} {φ : Nat → PyData → Prop} {I : Nat → List PyData → Prop} (nd : X.N.Nodup) (ha : JD X iter σ H (.tuple ds0)) (r : Row X.K ρ R H) (L : LqOk X elt ifs scope iv σ H ρ R ds0.length (fun _ _ => True) ψ φ I)
    (hc : X.calm = true := by rfl) (ok : blkC X.N X.env.scope scope [(y, iv)] = true := by kernel_rfl) (hN : X.N[iv]? = some y := by rfl) (hy : ∀ C cl, Loc (compEnvC scope cl C X.env).scope y := by first | (intros; exact Or.inl rfl) | (intros; exact Or.inr rfl)) (hyf : ∀ s0 H0 C cl fp, (X.blk s0 H0 scope (compEnvC scope cl C X.env) fp).fn y = true ∨ (compEnvC scope cl C X.env).scope.names.lookup y = some .local := by first | (intros; exact Or.inr rfl) | (intros; exact Or.inl rfl)) (hs : ∀ x, foldedSetIterable iter X.env x = pure x := by intro _; rfl) :
    JQ R X (.ListComp elt [⟨.Name y py, iter, ifs, 0⟩] scope pos) σ H (φList X.K ρ R ds0.length I) :=
  PE.cq (pe_lc (own := [(y, iv)]) (g := gName iv) hc nd (pi_tup ha) (blkOk_by ok) (fun s0 H0 C cl fp => pg_name nd hN (hy C cl) (hyf s0 H0 C cl fp)) (fun s0 H0 C cl fp => lq_tests L s0 H0 C cl fp) (fun s0 H0 C cl fp => lq_elts L s0 H0 C cl fp) hs) fun σ' H1 Q q => by
    obtain ⟨rfl, e1, q⟩ := q
    refine ⟨rfl, e1, fun v H2 e2 hv => ?_⟩
    obtain ⟨t, xs, rfl, h1, h2⟩ := tp_tup hv
    refine ⟨t, rfl, ⟨xs, SqT.of h1⟩, fun D hD => lc_tup (xs := xs) (fun j H' => Lq X.K ρ R I H2 D j H') (lq_start hD (r.ex (e1.trans e2)) L.i0) (fun j H' _ p => SqT.of (p.kr.2 t _ h1)) (fun j y H' hy p => ⟨wipe1 _ _ _, ?_⟩) fun H' p => ?_⟩
    · have hj : j < ds0.length := by
        have := (List.getElem?_eq_some_iff.mp hy).1
        rw [h2.len] at this
        exact this
      exact lq_turn L (e1.trans e2) hj trivial p
    · rw [h2.len] at p
      obtain ⟨acc, ds, h1, h2, h3, h4, h5⟩ := p.acc
      exact q _ _ ((KR.of e2).trans p.kr) ⟨p.row, ds, h4, h3, h5, .lst h1 h2⟩
/-! ### calls that draw -/
theorem jq_taken {k : Nat} {ps : List Str} {ρ : Rw} {R : Addr} {m : Int} (O : OkC X.prog X.w X.K X.mg X.base CX0 x k ps (spTaken X.K ρ)) (hr : Room k X.A) (ha : JV X a σ H (.ref R)) (hb : JD X b σ H (.int m)) (m1 : 1 ≤ m) (m2 : m < 1073741824) (r : Row X.K ρ R H)
    (hg : Gl X x := by rfl) (hdb : (x == ("__debug__" : Str)) = false := by decide) (he : starEach [a, b] X.env = (false, eval a X.env) :: starEach [b] X.env := by rfl) (he2 : starEach [b] X.env = (false, eval b X.env) :: starEach [] X.env := by rfl) (hpl : (backTo pos (starEach [b] X.env)).any (·.1) = false := by rfl) :
    JQ R X (.Call (.Name x p) [a, b] [] pos) σ H fun v H' => Row X.K ρ R H' ∧ ∃ i, 0 ≤ i ∧ i < m ∧ v = .int i := by
  obtain ⟨f, fd, hm, hk, hb', F⟩ := O.ex
  refine PE.cq (pe_call F hr hg hm hk hb' .nil pass0 (pa_cons ha (pa_cons hb pa_nil he2) he) hdb he hpl) fun σ' H1 Q q => ?_
  obtain ⟨rfl, e1, q⟩ := q
  refine ⟨rfl, e1, fun v H2 e2 hv => ⟨rfl, e1.trans e2, fun u H3 e3 hu => ?_⟩⟩
  subst hv
  rw [tp_int hu]
  exact ⟨R, m, rfl, m1, m2, r.ex ((e1.trans e2).trans e3), fun i H4 h0 h1 k4 r4 => q _ _ ((KR.of (e2.trans e3)).trans k4) ⟨r4, i, h0, h1, rfl⟩⟩
/-- c + e, e draws -/
theorem jq_add {ρ : Rw} {R : Addr} {n m : Int} (ha : JD X a σ H (.int n)) (hb : JQ R X b σ H fun v H' => Row X.K ρ R H' ∧ ∃ i, 0 ≤ i ∧ i < m ∧ v = .int i) : JQ R X (.BinOp a .Add b pos) σ H fun v H' => Row X.K ρ R H' ∧ ∃ i, n ≤ i ∧ i < n + m ∧ v = .int i := PE.cq (pe_op op_add ha hb) fun σ' H1 Q q => by
  obtain ⟨rfl, e1, q⟩ := q
  refine ⟨rfl, e1, fun v H2 e2 hv => ⟨rfl, e1.trans e2, fun u H3 k3 hu => ?_⟩⟩
  obtain ⟨r3, i, h0, h1, rfl⟩ := hu
  rw [tp_int hv]
  exact ⟨n, i, rfl, rfl, q _ _ ((KR.of e2).trans k3) ⟨r3, n + i, by omega, by omega, rfl⟩⟩
/-- a test of a draw -/
theorem jtq_cmp {op : CmpOp} {g : Int → Int → Bool} {ρ : Rw} {R : Addr} {m n : Int} (ho : OpR X (compareOp op) (rI0 fun i j => .bl (g i j))) (ha : JQ R X a σ H fun v H' => Row X.K ρ R H' ∧ ∃ i, 0 ≤ i ∧ i < m ∧ v = .int i) (hb : ∀ H', JD X b σ H' (.int n)) (hm : behindInMarks op b = false := by first | exact nomark _ | rfl) :
    PT X (.Compare a [op] [b] pos) (tTQ R σ H fun _ H' => True ∧ Row X.K ρ R H') := by
  have hb' : PE X b (fun σ2 H2 Q => ∃ H', tD σ H' (.int n) σ2 H2 Q) := PE.fam fun H' => hb H'
  refine PT.cq (pt_cmpR ho ha hb' hm) fun σ' H1 Q q => ?_
  obtain ⟨rfl, e1, q⟩ := q
  refine ⟨rfl, e1, fun v H2 k2 hv => ⟨H2, rfl, Ex.refl _, fun u H3 e3 hu => ?_⟩⟩
  obtain ⟨r2, i, h0, h1, rfl⟩ := hv
  rw [tp_int hu]
  exact ⟨i, n, rfl, rfl, _, rfl, q _ _ (k2.trans (KR.of e3)) ⟨trivial, r2.ex e3⟩⟩
end
end TJ
set_option Elab.async false
set_option linter.all false
set_option maxRecDepth 100000
set_option maxHeartbeats 4000000
namespace TJ
open PySem PySem.Spec PyProof.Rows L2
open Evl (Ex fresh_back)
section
variable {X : Cx} {e a b c : Expr} {es : List Expr} {σ : L2.St} {H : Hp} {pos p p2 : Pos} {x : Str} {D : Ends}
theorem j_setQ {R : Addr} {φ : V → Hp → Prop} {y : Str} {py : Pos} {i : Nat} (nd : X.N.Nodup) (h : JQ R X e σ H φ) (k : ∀ v H1, KR R H H1 → φ v H1 → D.nx (σ.set i (some v)) H1) (hN : X.N[i]? = some y := by rfl) (hl : Loc X.env.scope y := by first | exact Or.inl rfl | exact Or.inr rfl)
    (hs : swapsWith e (some (.Name y py)) pos.line X.env = pure false := by rfl) (hf : X.fn y = true ∨ X.env.scope.names.lookup y = some .local := by first | exact .inl rfl | exact .inr rfl) : J1 X (.Assign [.Name y py] e pos) σ H D :=
  PS.cq (ps_set nd hN hl h hs hf) fun D' σ' H' q => by
    obtain ⟨rfl, rfl, rfl⟩ := q
    exact ⟨rfl, Ex.refl _, fun v H1 k1 hv => k v H1 k1 hv⟩
theorem j_retQ {R : Addr} {φ : V → Hp → Prop} (h : JQ R X e σ H φ) (k : ∀ v H1, KR R H H1 → φ v H1 → D.rt v H1) : J1 X (.Return (some e) pos) σ H D := PS.cq (ps_ret h) fun D' σ' H' q => by
  obtain ⟨rfl, rfl, rfl⟩ := q
  exact ⟨rfl, Ex.refl _, fun v H1 k1 hv => k v H1 k1 hv⟩
/-- xs[e], e draws -/
theorem jq_ixR {ρ : Rw} {R : Addr} {L : List (List Int)} (ha : JD X a σ H (dR L)) (hb : JQ R X b σ H fun v H' => Row X.K ρ R H' ∧ ∃ i, 0 ≤ i ∧ i < (L.length : Int) ∧ v = .int i) (r : Row X.K ρ R H) (hs : PlainIx b := by exact fun _ _ => rfl) :
    JQ R X (.Subscript a b pos) σ H fun v H' => Row X.K ρ R H' ∧ ∃ l, l ∈ L ∧ Tp H' v (dI l) := PE.cq (pe_ix ix_list ha hb hs) fun σ' H1 Q q => by
  obtain ⟨rfl, e1, q⟩ := q
  refine ⟨rfl, e1, fun v H2 e2 hv => ⟨rfl, e1.trans e2, fun u H3 k3 hu => ?_⟩⟩
  obtain ⟨r3, i, h0, h1, rfl⟩ := hu
  have hv3 := k3.tR (r.ex (e1.trans e2)) hv
  obtain ⟨t, xs, rfl, h2, h3⟩ := tp_lst hv3
  have hlt : i.toNat < L.length := by omega
  obtain ⟨z, hz1, hz2⟩ := h3.at (i := i.toNat) (d := dI L[i.toNat]) (by rw [List.getElem?_map, List.getElem?_eq_getElem hlt]; rfl)
  exact ⟨t, xs, i, z, rfl, rfl, SqL.of h2, by rw [← Int.toNat_of_nonneg h0]; exact atI_nat hz1, q _ _ ((KR.of e2).trans k3) ⟨r3, _, List.getElem_mem hlt, hz2⟩⟩
theorem jq_of {ρ : Rw} {R : Addr} {d : PyData} {φ : PyData → Prop} (h : JD X e σ H d) (r : Row X.K ρ R H) (f : flt d = true) (hφ : φ d) : JQ R X e σ H fun v H' => Row X.K ρ R H' ∧ ∃ d, flt d = true ∧ φ d ∧ Tp H' v d := PE.cq h fun σ' H1 Q q => by
  obtain ⟨rfl, e1, q⟩ := q
  exact ⟨rfl, e1, fun v H2 e2 hv => q v H2 (KR.of e2) ⟨r.ex (e1.trans e2), d, f, hφ, hv⟩⟩
/-- a draw == n -/
theorem jtq_eq {ρ : Rw} {R : Addr} {m n : Int} (hu : X.A.units + 64 < cLine) (ha : JQ R X a σ H fun v H' => Row X.K ρ R H' ∧ ∃ i, 0 ≤ i ∧ i < m ∧ v = .int i) (hb : ∀ H', JD X b σ H' (.int n)) (hm : behindInMarks .Eq b = false := by first | exact nomark _ | rfl) :
    PT X (.Compare a [.Eq] [b] pos) (tTQ R σ H fun _ H' => True ∧ Row X.K ρ R H') := by
  have hb' : PE X b (fun σ2 H2 Q => ∃ H', tD σ H' (.int n) σ2 H2 Q) := PE.fam fun H' => hb H'
  refine PT.cq (pt_cmpR (op_eqD hu) ha hb' hm) fun σ' H1 Q q => ?_
  obtain ⟨rfl, e1, q⟩ := q
  refine ⟨rfl, e1, fun v H2 k2 hv => ⟨H2, rfl, Ex.refl _, fun u H3 e3 hu => ?_⟩⟩
  obtain ⟨r2, i, h0, h1, rfl⟩ := hv
  refine k_eqD (shp_int i) (shp_int n) _ _ H3 _ (.int i) hu fun v4 H4 e4 hv4 => ?_
  exact ⟨_, tp_bl hv4, q _ _ (k2.trans (KR.of (e3.trans e4))) ⟨trivial, r2.ex (e3.trans e4)⟩⟩
/-- tuple(xs), xs drawn -/
theorem jq_tuple {ρ : Rw} {R : Addr} {n : Nat} {I : Nat → List PyData → Prop} (hm : X.mg "tuple" = none) (ha : JQ R X a σ H (φList X.K ρ R n I)) (hg : Gl X "tuple" := by rfl) (he : starEach [a] X.env = (false, eval a X.env) :: starEach [] X.env := by rfl) :
    JQ R X (.Call (.Name "tuple" p) [a] [] p2) σ H fun v H' => Row X.K ρ R H' ∧ ∃ ds, I n ds ∧ fltA ds = true ∧ ds.length ≤ n ∧ Tp H' v (.tuple ds) := PE.cq (pe_callTy call_tuple_of hg hm bt_tuple (pa_cons ha pa_nil he) (by decide) (by decide) he (by rfl)) fun σ' H1 Q q => by
  obtain ⟨rfl, e1, q⟩ := q
  refine ⟨rfl, e1, fun v H2 k2 hv => ?_⟩
  obtain ⟨r2, ds, h1, h2, h3, hv⟩ := hv
  obtain ⟨t, xs, rfl, q1, q2⟩ := tp_lst hv
  exact ⟨t, xs, rfl, .inl ⟨SqL.of q1, fun l hl => q _ _ (k2.trans (KR.of (Ex.nw hl))) ⟨r2.ex (Ex.nw hl), ds, h1, h2, h3, .tup upd_same (q2.ex (Ex.nw hl))⟩⟩⟩
/-- y1, y2 = e, [..], e draws -/
theorem j_parQ {ρ : Rw} {R : Addr} {y1 y2 : Str} {py1 py2 pt pt2 : Pos} {kt k2 i1 i2 : Nat} {lo hi : Int} {ds : List PyData} (nd : X.N.Nodup) (h1 : JQ R X a σ H fun v H' => Row X.K ρ R H' ∧ ∃ i, lo ≤ i ∧ i < hi ∧ v = .int i) (h2 : ∀ H', JN X b σ H' ds)
    (k : ∀ i q H1, lo ≤ i → i < hi → KR R H H1 → Row X.K ρ R H1 → Tp H1 (.ref q) (.list ds) → D.nx ((σ.set i1 (some (.int i))).set i2 (some (.ref q))) H1)
    (hN1 : X.N[i1]? = some y1 := by rfl) (hN2 : X.N[i2]? = some y2 := by rfl) (h12 : i1 ≠ i2 := by decide)
    (hl1 : X.env.scope.names.lookup y1 = some .local := by rfl) (hl2 : X.env.scope.names.lookup y2 = some .local := by rfl)
    (hw : swappedStores [.Tuple [.Name y1 py1, .Name y2 py2] kt pt] (.Tuple [a, b] k2 pt2) X.env = pure (some [y1, y2]) := by rfl)
    (hs : swapsWithSole [.Tuple [.Name y1 py1, .Name y2 py2] kt pt] (.Tuple [a, b] k2 pt2) pos.line X.env = pure false := by rfl) (hc : X.calm = true := by rfl)
    (he1 : starEach [a, b] X.env = (false, eval a X.env) :: starEach [b] X.env := by rfl) (he2 : starEach [b] X.env = (false, eval b X.env) :: starEach [] X.env := by rfl) :
    J1 X (.Assign [.Tuple [.Name y1 py1, .Name y2 py2] kt pt] (.Tuple [a, b] k2 pt2) pos) σ H D := by
  have hb' : PE X b (fun σ2 H2 Q => ∃ H', tN σ H' ds σ2 H2 Q) := PE.fam fun H' => h2 H'
  refine PS.cq (ps_par hc nd hN1 hN2 h12 hl1 hl2 (pa_cons h1 (pa_cons hb' pa_nil he2) he1) hw hs) fun D' σ' H' q => ?_
  obtain ⟨rfl, rfl, rfl⟩ := q
  refine ⟨rfl, Ex.refl _, fun v H1 k1 hv => ⟨H1, rfl, Ex.refl _, fun q H2 nq e2 hq => ?_⟩⟩
  obtain ⟨r1, i, h0, h1, rfl⟩ := hv
  exact ⟨_, _, rfl, k i q H2 h0 h1 (k1.trans (KR.of e2)) (r1.ex e2) hq⟩
/-- xs + ys, ys drawn -/
theorem jq_catL {ρ : Rw} {R : Addr} {n : Nat} {I : Nat → List PyData → Prop} {ds : List PyData} (ha : JD X a σ H (.list ds)) (hb : JQ R X b σ H (φList X.K ρ R n I)) (keep : ∀ v H1 H2, Ex H H1 → KR R H1 H2 → Tp H1 v (.list ds) → Tp H2 v (.list ds)) (hl : ds.length + n ≤ 1000) :
    JQ R X (.BinOp a .Add b pos) σ H fun v H' => Row X.K ρ R H' ∧ ∃ es', I n es' ∧ es'.length ≤ n ∧ Tp H' v (.list (ds ++ es')) := PE.cq (pe_op op_cat ha hb) fun σ' H1 Q q => by
  obtain ⟨rfl, e1, q⟩ := q
  refine ⟨rfl, e1, fun v H2 e2 hv => ⟨rfl, e1.trans e2, fun u H3 k3 hu => ?_⟩⟩
  obtain ⟨r3, es', h1, h2, h3, hu⟩ := hu
  have hv3 := keep v H2 H3 (e1.trans e2) k3 hv
  obtain ⟨t, xs, rfl, q1, q2⟩ := tp_lst hv3
  obtain ⟨t', ys, rfl, q3, q4⟩ := tp_lst hu
  refine ⟨t, t', xs, ys, rfl, rfl, q1, q3, by rw [q2.len, q4.len]; exact sz1 (by omega), fun l hl => q _ _ (((KR.of e2).trans k3).trans (KR.of (Ex.nw hl))) ⟨r3.ex (Ex.nw hl), es', h1, h3, .lst upd_same ((q2.app q4).ex (Ex.nw hl))⟩⟩
end
section
variable {K : PySem.W.Frag} {ρ : Rw} {R : Addr} {H H' : Hp}
/-- couples -/
def dC (C : List (Int × Int)) : List PyData := C.map fun q => .tuple [.int q.1, .int q.2]
theorem flt_C (C : List (Int × Int)) : fltA (dC C) = true := fltA_map _ (fun q => by simp [flt, fltA]) C
theorem Row.notC (r : Row K ρ R H) {C : List (Int × Int)} (h : Tp H (.ref R) (.list (dC C))) : False := by
  obtain ⟨a, b, c, h1, _⟩ := r
  obtain ⟨t, xs, e, h2, h3⟩ := tp_lst h
  cases e
  rw [h1] at h2
  cases h2
  cases C with
  | nil => cases h3
  | cons x C =>
    cases C with
    | nil =>
      cases h3 with
      | cons _ h3 => cases h3
    | cons y C =>
      cases h3 with
      | cons _ h3 =>
        cases h3 with
        | cons h4 _ => cases h4
theorem KR.tC {v : V} {C : List (Int × Int)} (k : KR R H H') (r : Row K ρ R H) (h : Tp H v (.list (dC C))) : Tp H' v (.list (dC C)) := by
  obtain ⟨a, xs, rfl, _, _⟩ := tp_lst h
  exact k.1.lst k.2 (fun z => r.notC (z ▸ h)) h (flt_C C)
end
section
variable {P : Program} {w : World} {K : PySem.W.Frag} {mg : Str → Option Value} {base : Heap}
/-! ### _law_pick -/
def spPick (K : PySem.W.Frag) (ρ : Rw) : Sp := fun vs H Q _ => ∃ (R : Addr) (L : List (List Int)) (vl : V), vs = [.ref R, vl] ∧ L ≠ [] ∧ L.length ≤ 1000 ∧ Tp H vl (dR L) ∧ Row K ρ R H ∧ ∀ l v H', l ∈ L → KR R H H' → Row K ρ R H' → Tp H' v (dI l) → Q v H'
abbrev sPick : Stmt := topS 44
theorem scPick : FnScope ["_law_row", "_law_kinds"] ["_law_row", "_law_kinds"] (defScope sPick) := ⟨rfl, rfl, rfl, by decide +kernel, rfl, by decide +kernel, by decide +kernel⟩
theorem ok_pick {ρ : Rw} (B : Bt mg) (F : Df K mg "_law_pick" sPick ["_law_row", "_law_kinds"]) (O : OkC P w K mg base CX0 "_law_taken" 1 ["_law_row", "_law_many"] (spTaken K ρ)) : OkC P w K mg base CX0 "_law_pick" 2 ["_law_row", "_law_kinds"] (spPick K ρ) := by
  refine ok_defS F scPick (fun vs H Q E h => by obtain ⟨R, L, vl, rfl, _⟩ := h; rfl) (fun f cdv A outer s H E vs Q hr hR => ?_)
  obtain ⟨R, L, vl, rfl, hne, hl, tl, r, q⟩ := hR
  have h1 : 1 ≤ L.length := List.length_pos_iff.mpr hne
  refine js_one (j_retQ (jq_ixR (jd_var 1 tl) (jq_taken O hr (jv_var 0 rfl) (jd_is (jd_lenL B.len (jd_var 1 tl)) (by rw [List.length_map])) (by omega) (by omega) r) r) fun v H1 k1 hv => ?_)
  obtain ⟨r1, l, hl, tv⟩ := hv
  exact q l v H1 hl k1 r1 tv
/-! ### _law_up -/
def spUp (K : PySem.W.Frag) (ρ : Rw) : Sp := fun vs H Q _ => ∃ (R : Addr) (W : List (List Int)) (vw : V), vs = [.ref R, vw] ∧ Wb W ∧ Tp H vw (dW W) ∧ Row K ρ R H ∧ ∀ S v H', Asc W.length S → KR R H H' → Row K ρ R H' → Tp H' v (dI S) → Q v H'
abbrev sUp : Stmt := topS 49
theorem scUp : FnScope ["_law_row", "_law_web_here", "_law_rare", "_law_person"] ["_law_row", "_law_web_here"] (defScope sUp) := ⟨rfl, rfl, rfl, by decide +kernel, rfl, by decide +kernel, by decide +kernel⟩
theorem asc_snoc {i : Nat} {S : List Int} (h : Asc i S) : Asc (i + 1) (S ++ [(i : Int)]) := by
  refine ⟨List.pairwise_append.mpr ⟨h.up, by simp, fun a ha b hb => ?_⟩, fun x hx => ?_⟩
  · rw [List.mem_singleton.mp hb]; exact (h.lt a ha).2
  · rcases List.mem_append.mp hx with hx | hx
    · have := h.lt x hx; omega
    · rw [List.mem_singleton.mp hx]; omega
theorem asc_more {i : Nat} {S : List Int} (h : Asc i S) : Asc (i + 1) S := ⟨h.up, fun x hx => by have := h.lt x hx; omega⟩
theorem ok_up {ρ : Rw} (B : Bt mg) (F : Df K mg "_law_up" sUp ["_law_row", "_law_web_here"]) (O : OkC P w K mg base CX0 "_law_taken" 1 ["_law_row", "_law_many"] (spTaken K ρ)) : OkC P w K mg base CX0 "_law_up" 2 ["_law_row", "_law_web_here"] (spUp K ρ) := by
  refine ok_defS F scUp (fun vs H Q E h => by obtain ⟨R, L, vl, rfl, _⟩ := h; rfl) (fun f cdv A outer s H E vs Q hr hR => ?_)
  obtain ⟨R, W, vw, rfl, hW, tw, r, q⟩ := hR
  have hn := hW.n5
  refine js_cons (j_setQ (i := 2) scUp.nd (jq_add jd_int (jq_taken O hr (jv_var 0 rfl) jd_int (by decide) (by decide) r)) fun v H1 k1 hv => ?_)
  obtain ⟨r1, m, hm0, hm1, rfl⟩ := hv
  have tw1 := k1.tp tw (flt_W W)
  refine js_one (j_retQ (jq_tuple B.tuple (jq_lcR (iv := 3) (n := W.length) (ψ := fun _ => True) (φ := fun i d => d = .int (i : Int)) (I := fun i ds => ∃ S, ds = S.map .int ∧ Asc i S) scUp.nd B.range (jd_is (jd_lenT B.len (jd_var 1 tw1)) (by rw [List.length_map])) r1
    ⟨by omega, ⟨[], rfl, ⟨by simp, fun x hx => absurd hx (by simp)⟩⟩, fun i ds hi _ h => by obtain ⟨S, h1, h2⟩ := h; exact ⟨S, h1, asc_more h2⟩, fun i ds d hi hd h => by obtain ⟨S, rfl, h2⟩ := h; subst hd; exact ⟨S ++ [(i : Int)], by rw [List.map_append]; rfl, asc_snoc h2⟩,
      fun s0 H0 C cl fp i x H' hi hx k r' => ?_, fun s0 H0 C cl fp i x H' hi hx k r' => ?_⟩)) fun v H2 k2 hv => ?_)
  · subst hx
    exact pts_one (jtq_cmp op_gt (jq_taken O hr (jv_var 0 rfl) (jd_var 2 (.int m)) (by omega) (by omega) r') (fun H'' => jd_int))
  · subst hx
    exact jq_of (jd_var 3 (.int (0 + (i : Int)))) r' (by simp [flt]) (by rw [Int.zero_add])
  · obtain ⟨r2, ds, ⟨S, rfl, hS⟩, _, _, tv⟩ := hv
    exact q S v H2 hS (k1.trans k2) r2 tv
/-! ### _law_web -/
def spBy : Sp := fun vs H Q _ => ∃ (n : Nat) (C : List (Int × Int)) (vc : V), vs = [.int n, vc] ∧ 1 ≤ n ∧ n ≤ 5 ∧ (∀ q ∈ C, 0 ≤ q.1 ∧ q.1 < q.2 ∧ q.2 < n) ∧ C.length ≤ 100 ∧ Tp H vc (.list (dC C)) ∧ ∀ W v H', Wb W → Ex H H' → Tp H' v (dW W) → Q v H'
def spWeb (K : PySem.W.Frag) (ρ : Rw) : Sp := fun vs H Q _ => ∃ (R : Addr), vs = [.ref R, .int 5] ∧ Row K ρ R H ∧ ∀ W v H', Wb W → KR R H H' → Row K ρ R H' → Tp H' v (dW W) → Q v H'
abbrev sWeb : Stmt := topS 47
theorem scWeb : FnScope ["_law_row", "_law_most", "_law_many", "_law_couples", "_law_rare", "_law_one", "_law_other"] ["_law_row", "_law_most"] (defScope sWeb) := ⟨rfl, rfl, rfl, by decide +kernel, rfl, by decide +kernel, by decide +kernel⟩
theorem ok_web {ρ : Rw} (B : Bt mg) (F : Df K mg "_law_web" sWeb ["_law_row", "_law_most"]) (O : OkC P w K mg base CX0 "_law_taken" 1 ["_law_row", "_law_many"] (spTaken K ρ)) (OB : OkC P w K mg base CX0 "_law_by" 1 ["_law_many", "_law_couples"] spBy) : OkC P w K mg base CX0 "_law_web" 2 ["_law_row", "_law_most"] (spWeb K ρ) := by
  refine ok_defS F scWeb (fun vs H Q E h => by obtain ⟨R, rfl, _⟩ := h; rfl) (fun f cdv A outer s H E vs Q hr hR => ?_)
  obtain ⟨R, rfl, r, q⟩ := hR
  refine js_cons (j_parQ (i1 := 2) (i2 := 3) (ds := []) scWeb.nd (jq_add jd_int (jq_taken O hr (jv_var 0 rfl) (jd_var 1 (.int 5)) (by decide) (by decide) r)) (fun H' => jn_lst ja_nil) fun n c H1 n1 n2 k1 r1 tc => ?_)
  obtain ⟨n, rfl⟩ : ∃ m : Nat, n = (m : Int) := ⟨n.toNat, by omega⟩
  have hn1 : 1 ≤ n := by omega
  have hn5 : n ≤ 5 := by omega
  refine js_cons (j_setQ (i := 4) scWeb.nd (jq_add jd_int (jq_taken O hr (jv_var 0 rfl) jd_int (by decide) (by decide) r1)) fun v H2 k2 hv => ?_)
  obtain ⟨r2, m, hm0, hm1, rfl⟩ := hv
  have tc2 : Tp H2 (.ref c) (.list (dC [])) := k2.tC (C := []) r1 tc
  refine js_cons (j_forR (i := 5) (n := n) scWeb.nd B.range (jd_var 2 (.int n)) (by omega) (fun j σ' H' => KR R H H' ∧ Row K ρ R H' ∧ ∃ vc o C, σ' = [some (.ref R), some (.int 5), some (.int n), some vc, some (.int m), o, none] ∧ Tp H' vc (.list (dC C)) ∧ (∀ q ∈ C, 0 ≤ q.1 ∧ q.1 < q.2 ∧ q.2 < n) ∧ C.length ≤ 5 * j)
    (fun H3 e3 => ⟨(k1.trans k2).trans (KR.of e3), r2.ex e3, .ref c, none, [], rfl, tc2.ex e3, fun q hq => absurd hq (by simp), Nat.zero_le _⟩) (fun j σ' H' hj p => ?_) (fun σ' H' p => ?_))
  · obtain ⟨p1, p2, vc, o, C, rfl, p3, p4, p5⟩ := p
    refine js_one (j_setQ (i := 3) scWeb.nd (jq_catL (n := n - (j + 1)) (I := fun _ ds => ∃ C', ds = dC C' ∧ ∀ q ∈ C', 0 ≤ q.1 ∧ q.1 < q.2 ∧ q.2 < n) (jd_var 3 p3) (jq_lcR2 (iv := 6) (lo := (j : Int) + 1) (hi := (n : Int)) (ψ := fun _ => True) (φ := fun i d => d = .tuple [.int (j : Int), .int ((j : Int) + 1 + (i : Int))]) (I := fun _ ds => ∃ C', ds = dC C' ∧ ∀ q ∈ C', 0 ≤ q.1 ∧ q.1 < q.2 ∧ q.2 < n) scWeb.nd B.range (jd_add (jd_var 5 (.int (j : Int))) jd_int) (jd_var 2 (.int n)) (by omega) (by omega) p2
      ⟨by omega, ⟨[], rfl, fun q hq => absurd hq (by simp)⟩, fun i ds hi _ h => h, fun i ds d hi hd h => ?_, fun s0 H0 C0 cl fp i x H'' hi hx k r' => ?_, fun s0 H0 C0 cl fp i x H'' hi hx k r' => ?_⟩) (fun v H3 H4 e3 k4 hv => k4.tC (p2.ex e3) hv) ?_) fun v H3 k3 hv => ?_)
    · obtain ⟨C', rfl, h⟩ := h
      subst hd
      refine ⟨C' ++ [((j : Int), (j : Int) + 1 + (i : Int))], by unfold dC; rw [List.map_append]; rfl, fun q hq => ?_⟩
      rcases List.mem_append.mp hq with hq | hq
      · exact h q hq
      · rw [List.mem_singleton.mp hq]
        refine ⟨?_, ?_, ?_⟩ <;> dsimp only <;> omega
    · subst hx
      exact pts_one (jtq_eq hr.units (jq_taken O hr (jv_var 0 rfl) (jd_var 4 (.int m)) (by omega) (by omega) r') (fun H3 => jd_int))
    · subst hx
      exact jq_of (jd_tup (ja_cons (jd_var 5 (.int (j : Int))) (ja_cons (jd_var 6 (.int ((j : Int) + 1 + (i : Int)))) ja_nil))) r' (by simp [flt, fltA]) rfl
    · unfold dC
      rw [List.length_map]
      omega
    · obtain ⟨r3, es', ⟨C', rfl, hC'⟩, hle, tv⟩ := hv
      refine ⟨p1.trans k3, r3, v, _, C ++ C', rfl, ?_, fun q hq => ?_, ?_⟩
      · have e : dC (C ++ C') = dC C ++ dC C' := by unfold dC; rw [List.map_append]
        rw [e]
        exact tv
      · rcases List.mem_append.mp hq with hq | hq
        · exact p4 q hq
        · exact hC' q hq
      · have e : (dC C').length = C'.length := List.length_map ..
        rw [List.length_append]
        omega
  · obtain ⟨p1, p2, vc, o, C, rfl, p3, p4, p5⟩ := p
    obtain ⟨f', fd', hm', hk', hb', F'⟩ := OB.ex
    refine js_one (PS.cq (ps_ret (pe_call F' (hr.mono (by decide)) (by rfl) hm' hk' hb' .nil pass0 (ja_cons (H := H') (σ := [some (.ref R), some (.int 5), some (.int n), some vc, some (.int m), o, none]) (jd_var 2 (.int n)) (ja_cons (jd_var 3 p3) ja_nil)))) fun D' σ' H3 q' => ?_)
    obtain ⟨rfl, rfl, rfl⟩ := q'
    refine ⟨rfl, Ex.refl _, fun vs H4 e4 hvs => ?_⟩
    obtain ⟨u1, u2, rfl, tu1, tu2⟩ := tpA2 hvs
    rw [tp_int tu1]
    exact ⟨n, C, u2, rfl, hn1, hn5, p4, by omega, tu2, fun W v H5 hW e5 tv => q W v H5 hW (p1.trans (KR.of (e4.trans e5))) (p2.ex (e4.trans e5)) tv⟩
end
end TJ
set_option Elab.async false
set_option linter.all false
set_option maxRecDepth 100000
set_option maxHeartbeats 4000000
namespace TJ
open PySem PySem.Spec PyProof.Rows L2
open Evl (Ex fresh_back)
/-! ### friends, in plain words -/
def addK (ks : List Int) (x : Int) : List Int := if x ∈ ks then ks else ks ++ [x]
theorem mem_addK {ks : List Int} {x y : Int} : y ∈ addK ks x ↔ y ∈ ks ∨ y = x := by
  unfold addK
  split
  · rename_i h
    constructor
    · exact .inl
    · rintro (h1 | rfl)
      · exact h1
      · exact h
  · rw [List.mem_append, List.mem_singleton]
theorem nd_addK {ks : List Int} {x : Int} (h : ks.Nodup) : (addK ks x).Nodup := by
  unfold addK
  split
  · exact h
  · rename_i hn
    exact List.nodup_append.mpr ⟨h, by simp, fun a ha b hb => by rw [List.mem_singleton.mp hb]; exact fun z => hn (z ▸ ha)⟩
def adj (KS : List (List Int)) (i : Nat) (x : Int) : List (List Int) := KS.set i (addK (KS.getD i []) x)
theorem adj_len {KS : List (List Int)} {i : Nat} {x : Int} : (adj KS i x).length = KS.length := by unfold adj; rw [List.length_set]
theorem adj_at {KS : List (List Int)} {i k : Nat} {x : Int} (h : i < KS.length) : (adj KS i x).getD k [] = if k = i then addK (KS.getD i []) x else KS.getD k [] := by
  unfold adj
  rw [List.getD_eq_getElem?_getD, List.getElem?_set]
  by_cases e : k = i
  · subst e
    rw [if_pos rfl, if_pos rfl, if_pos h]
    rfl
  · rw [if_neg (Ne.symm e), if_neg e, List.getD_eq_getElem?_getD]
/-- the friends so far -/
structure Sy (n : Nat) (KS : List (List Int)) : Prop where
  len : KS.length = n
  nd : ∀ k < n, (KS.getD k []).Nodup
  ok : ∀ k < n, ∀ y ∈ KS.getD k [], 0 ≤ y ∧ y < n ∧ y ≠ k
  sym : ∀ k < n, ∀ j < n, (j : Int) ∈ KS.getD k [] → (k : Int) ∈ KS.getD j []
theorem sy_nil (n : Nat) : Sy n (List.replicate n []) := by
  have key : ∀ k, (List.replicate n ([] : List Int)).getD k [] = [] := fun k => by
    rw [List.getD_eq_getElem?_getD, List.getElem?_replicate]
    split <;> rfl
  exact ⟨List.length_replicate, fun k _ => by rw [key]; simp, fun k _ y hy => by rw [key] at hy; simp at hy, fun k _ j _ hj => by rw [key] at hj; simp at hj⟩
theorem Sy.put {n : Nat} {KS : List (List Int)} (h : Sy n KS) {a b : Nat} (ha : a < n) (hb : b < n) (ne : a ≠ b) : Sy n (adj (adj KS a b) b a) := by
  have la : a < KS.length := by rw [h.len]; exact ha
  have lb : b < (adj KS a b).length := by rw [adj_len, h.len]; exact hb
  have at_ : ∀ k, (adj (adj KS a b) b a).getD k [] = if k = b then addK (KS.getD b []) a else if k = a then addK (KS.getD a []) b else KS.getD k [] := fun k => by
    rw [adj_at lb, adj_at la, adj_at la, if_neg (Ne.symm ne)]
  have mem : ∀ k (y : Int), y ∈ (adj (adj KS a b) b a).getD k [] ↔ y ∈ KS.getD k [] ∨ (k = b ∧ y = a) ∨ (k = a ∧ y = b) := fun k y => by
    rw [at_]
    by_cases e1 : k = b
    · subst e1
      rw [if_pos rfl, mem_addK]
      constructor
      · rintro (z | z)
        · exact .inl z
        · exact .inr (.inl ⟨rfl, z⟩)
      · rintro (z | ⟨_, z⟩ | ⟨z, _⟩)
        · exact .inl z
        · exact .inr z
        · exact absurd z.symm ne
    · rw [if_neg e1]
      by_cases e2 : k = a
      · subst e2
        rw [if_pos rfl, mem_addK]
        constructor
        · rintro (z | z)
          · exact .inl z
          · exact .inr (.inr ⟨rfl, z⟩)
        · rintro (z | ⟨z, _⟩ | ⟨_, z⟩)
          · exact .inl z
          · exact absurd z e1
          · exact .inr z
      · rw [if_neg e2]
        constructor
        · exact .inl
        · rintro (z | ⟨z, _⟩ | ⟨z, _⟩)
          · exact z
          · exact absurd z e1
          · exact absurd z e2
  refine ⟨by rw [adj_len, adj_len, h.len], fun k hk => ?_, fun k hk y hy => ?_, fun k hk j hj hm => ?_⟩
  · rw [at_]
    split
    · exact nd_addK (h.nd b hb)
    · split
      · exact nd_addK (h.nd a ha)
      · exact h.nd k hk
  · rcases (mem k y).mp hy with z | ⟨rfl, rfl⟩ | ⟨rfl, rfl⟩
    · exact h.ok k hk y z
    · refine ⟨by omega, by omega, by omega⟩
    · refine ⟨by omega, by omega, by omega⟩
  · rw [mem]
    rcases (mem k j).mp hm with z | ⟨rfl, z⟩ | ⟨rfl, z⟩
    · exact .inl (h.sym k hk j hj z)
    · exact .inr (.inr ⟨by omega, rfl⟩)
    · exact .inr (.inl ⟨by omega, rfl⟩)
theorem Sy.wb {n : Nat} {KS : List (List Int)} (h : Sy n KS) (h1 : 1 ≤ n) (h5 : n ≤ 5) : Wb (KS.map sortU) := by
  have get : ∀ {i : Nat} {fs : List Int}, (KS.map sortU)[i]? = some fs → i < n ∧ fs = sortU (KS.getD i []) := fun {i fs} hi => by
    rw [List.getElem?_map] at hi
    cases q : KS[i]? with
    | none => rw [q] at hi; cases hi
    | some ks =>
      rw [q] at hi
      have hlt := (List.getElem?_eq_some_iff.mp q).1
      refine ⟨by rw [← h.len]; exact hlt, ?_⟩
      rw [List.getD_eq_getElem?_getD, q]
      exact (Option.some.inj hi).symm
  have hl : (KS.map sortU).length = n := by rw [List.length_map, h.len]
  refine ⟨by rw [hl]; exact h1, by rw [hl]; exact h5, fun fs hf => ?_, fun i fs hi hm => ?_, fun i j fs hi hm => ?_⟩
  · obtain ⟨i, hi⟩ := List.mem_iff_getElem?.mp hf
    obtain ⟨hi', rfl⟩ := get hi
    refine ⟨up_sortU _, fun x hx => ?_⟩
    have := h.ok i hi' x ((mem_sortU x _).mp hx)
    rw [hl]
    exact ⟨this.1, this.2.1⟩
  · obtain ⟨hi', rfl⟩ := get hi
    exact (h.ok i hi' _ ((mem_sortU _ _).mp hm)).2.2 rfl
  · obtain ⟨hi', rfl⟩ := get hi
    have hm' := (mem_sortU _ _).mp hm
    have hj := h.ok i hi' _ hm'
    have hj' : j < n := by omega
    have hlt : j < KS.length := by rw [h.len]; exact hj'
    refine ⟨sortU (KS.getD j []), ?_, (mem_sortU _ _).mpr (h.sym i hi' j hj' hm')⟩
    rw [List.getElem?_map, List.getD_eq_getElem?_getD, List.getElem?_eq_getElem hlt]
    rfl
end TJ
set_option Elab.async false
set_option linter.all false
set_option maxRecDepth 100000
set_option maxHeartbeats 4000000
namespace TJ
open PySem PySem.Spec PyProof.Rows L2
open Evl (Ex fresh_back)
/-! ### a list of dicts with whole numbers as keys -/
def KeysI (kvs : List (L2.Key × V)) (ks : List Int) : Prop := kvs.map (·.1) = ks.map Sum.inl
theorem inl_inj_map {k : Int} : ∀ {ks : List Int}, (Sum.inl k : L2.Key) ∈ ks.map Sum.inl ↔ k ∈ ks := fun {ks} => by
  rw [List.mem_map]
  constructor
  · rintro ⟨a, h, e⟩
    injection e with e
    exact e ▸ h
  · exact fun h => ⟨k, h, rfl⟩
theorem KeysI.put {kvs : List (L2.Key × V)} {ks : List Int} {x : Int} {v : V} (h : KeysI kvs ks) : KeysI (putK kvs (.inl x) v) (addK ks x) := by
  unfold KeysI at *
  have e1 : (kvs.any fun kv => decide (kv.1 = (Sum.inl x : L2.Key))) = decide (x ∈ ks) := by
    have e2 : (kvs.any fun kv => decide (kv.1 = (Sum.inl x : L2.Key))) = (kvs.map (·.1)).any fun k => decide (k = (Sum.inl x : L2.Key)) := by rw [List.any_map]; rfl
    rw [e2, h]
    by_cases hx : x ∈ ks
    · rw [decide_eq_true hx, List.any_eq_true]
      exact ⟨Sum.inl x, inl_inj_map.mpr hx, by simp⟩
    · rw [decide_eq_false hx, Bool.eq_false_iff]
      intro hh
      obtain ⟨m, hm, e⟩ := List.any_eq_true.mp hh
      have e3 : m = (Sum.inl x : L2.Key) := by simpa using e
      exact hx (inl_inj_map.mp (e3 ▸ hm))
  unfold putK addK
  rw [e1]
  by_cases hx : x ∈ ks
  · rw [decide_eq_true hx, if_pos rfl, if_pos hx, List.map_map, ← h]
    refine List.map_congr_left fun kv _ => ?_
    show (if kv.1 = (Sum.inl x : L2.Key) then (kv.1, v) else kv).1 = kv.1
    split <;> rfl
  · rw [decide_eq_false hx, if_neg Bool.false_ne_true, if_neg hx, List.map_append, List.map_append, h]
    rfl
theorem KeysI.len {kvs : List (L2.Key × V)} {ks : List Int} (h : KeysI kvs ks) : kvs.length = ks.length := by
  have := congrArg List.length h
  simpa using this
/-- the dicts at as hold the keys KS -/
structure By (H0 : Hp) (D : Addr) (as : List Addr) (KS : List (List Int)) (H' : Hp) : Prop where
  ex : Ex H0 H'
  nD : H0 D = none
  lst : H' D = some (.lst (as.map V.ref))
  nd : as.Nodup
  len : as.length = KS.length
  at_ : ∀ i a, as[i]? = some a → H0 a = none ∧ ∃ kvs, H' a = some (.dK kvs) ∧ KeysI kvs (KS.getD i [])
theorem By.mono {H0 : Hp} {D : Addr} {as : List Addr} {KS : List (List Int)} {H' H'' : Hp} (b : By H0 D as KS H') (e : Ex H' H'') : By H0 D as KS H'' := ⟨b.ex.trans e, b.nD, e _ _ b.lst, b.nd, b.len, fun i a h => by
  obtain ⟨h1, kvs, h2, h3⟩ := b.at_ i a h
  exact ⟨h1, kvs, e _ _ h2, h3⟩⟩
theorem By.put {H0 : Hp} {D : Addr} {as : List Addr} {KS : List (List Int)} {H' : Hp} {i : Nat} {a : Addr} {x : Int} {v : V} {kvs : List (L2.Key × V)} (b : By H0 D as KS H') (hi : as[i]? = some a) (hk : H' a = some (.dK kvs)) (hK : KeysI kvs (KS.getD i [])) : By H0 D as (adj KS i x) (upd H' a (.dK (putK kvs (.inl x) v))) := by
  have hlt := (List.getElem?_eq_some_iff.mp hi).1
  have hl : i < KS.length := by rw [← b.len]; exact hlt
  have neD : D ≠ a := fun z => by have := b.lst; rw [z, hk] at this; cases this
  refine ⟨Evl.Ex.mut b.ex (b.at_ i a hi).1, b.nD, by rw [upd_ne neD]; exact b.lst, b.nd, by rw [adj_len]; exact b.len, fun j a' hj => ?_⟩
  obtain ⟨h1, kvs', h2, h3⟩ := b.at_ j a' hj
  refine ⟨h1, ?_⟩
  rw [adj_at hl]
  by_cases e : j = i
  · subst e
    rw [hi] at hj
    cases hj
    exact ⟨_, upd_same, by rw [if_pos rfl]; exact hK.put⟩
  · have ne : a' ≠ a := fun z => by
      subst z
      exact e ((List.getElem?_inj (List.getElem?_eq_some_iff.mp hj).1 b.nd).mp (hj.trans hi.symm))
    exact ⟨kvs', by rw [upd_ne ne]; exact h2, by rw [if_neg e]; exact h3⟩
section
variable {X : Cx} {e a b c : Expr} {es : List Expr} {σ : L2.St} {H : Hp} {pos p p2 : Pos} {x : Str} {D : Ends}
/-- d[n] = v -/
theorem j_dputK {kvs : List (L2.Key × V)} {n : Int} {d : Addr} {dv : PyData} {pos' : Pos} (hu : X.A.units + 64 < cLine) (ha : JV X a σ H (.ref d)) (hb : JD X b σ H (.int n)) (hv : JD X e σ H dv) (hd : H d = some (.dK kvs)) (hl : kvs.length < 1000)
    (k : ∀ v H1, Ex H H1 → D.nx σ (upd H1 d (.dK (putK kvs (.inl n) v)))) (hs : swapsWith e (some (.Subscript a b pos')) pos.line X.env = pure false := by rfl) : J1 X (.Assign [.Subscript a b pos'] e pos) σ H D :=
  PS.cq (ps_dput (by omega) ha hb hv hs) fun D' σ' H' q => by
    obtain ⟨rfl, rfl, rfl⟩ := q
    refine ⟨rfl, Ex.refl _, fun v H1 e1 hv => ⟨rfl, e1, fun u H2 e2 hu2 => ⟨rfl, e1.trans e2, fun y H3 e3 hy => ?_⟩⟩⟩
    subst hu2
    rw [tp_int hy]
    exact ⟨d, _, rfl, DPut.k (k := .inl n) (((e1.trans e2).trans e3) _ _ hd) (sz2 (by omega)), k v H3 ((e1.trans e2).trans e3)⟩
/-- for y1, y2 in xs, xs a list of couples -/
structure Tc (C : List (Int × Int)) (Pv : Nat → L2.St → Hp → Prop) where
  j : Nat
  q : Int × Int
  σ' : L2.St
  H' : Hp
  at_ : C[j]? = some q
  p : Pv j σ' H'
def tLoopC (i1 i2 : Nat) (C : List (Int × Int)) (Pv : Nat → L2.St → Hp → Prop) (D : Ends) : TS := fun D' σ' H' => ∃ z : Tc C Pv, tS ((z.σ'.set i1 (some (.int z.q.1))).set i2 (some (.int z.q.2))) z.H' { D with nx := Pv (z.j + 1), ct := Pv (z.j + 1), bk := D.nx } D' σ' H'
theorem j_forC {C : List (Int × Int)} {iter : Expr} {body : List Stmt} {y1 y2 : Str} {py1 py2 tpos : Pos} {kk i1 i2 : Nat} {v0 : V} (nd : X.N.Nodup) (h : JV X iter σ H v0) (Pv : Nat → L2.St → Hp → Prop)
    (h0 : ∀ H1, Ex H H1 → Pv 0 σ H1) (hl : ∀ j σ' H', Pv j σ' H' → Tp H' v0 (.list (dC C)))
    (hs : ∀ j q σ' H', C[j]? = some q → Pv j σ' H' → JS X body ((σ'.set i1 (some (.int q.1))).set i2 (some (.int q.2))) H' { D with nx := Pv (j + 1), ct := Pv (j + 1), bk := D.nx })
    (hd : ∀ σ' H', Pv C.length σ' H' → D.nx σ' H') (hN1 : X.N[i1]? = some y1 := by rfl) (hl1 : Loc X.env.scope y1 := by first | exact Or.inl rfl | exact Or.inr rfl) (hf1 : X.fn y1 = true ∨ X.env.scope.names.lookup y1 = some .local := by first | exact .inl rfl | exact .inr rfl)
    (hN2 : X.N[i2]? = some y2 := by rfl) (hl2 : Loc X.env.scope y2 := by first | exact Or.inl rfl | exact Or.inr rfl) (hf2 : X.fn y2 = true ∨ X.env.scope.names.lookup y2 = some .local := by first | exact .inl rfl | exact .inr rfl)
    (hp : PassesOwn (model X.prog X.w) X.A X.env X.xe := by exact PassesOwn.never) (hc : X.calm = true := by rfl)
    (hsx1 : (assignEach [.Name y1 py1, .Name y2 py2] X.env).map (·.2) = assign (.Name y1 py1) X.env :: (assignEach [.Name y2 py2] X.env).map (·.2) := by rfl) (hsx2 : (assignEach [.Name y2 py2] X.env).map (·.2) = assign (.Name y2 py2) X.env :: (assignEach [] X.env).map (·.2) := by rfl)
    (hnn : (assignEach [.Name y1 py1, .Name y2 py2] X.env).length = 2 := by rfl) (hst : (assignEach [.Name y1 py1, .Name y2 py2] X.env).findIdx? (·.1) = none := by rfl)
    (hfs : ∀ x, foldedSetIterable iter X.env x = pure x := by intro _; rfl) : J1 X (.For (.Tuple [.Name y1 py1, .Name y2 py2] kk tpos) iter body [] pos) σ H D := by
  refine PS.cq (ps_for hp hc (pi_list h) (pg_tup hc (pgs_cons (pg_name (i := i1) nd hN1 hl1 hf1) (pgs_cons (pg_name (i := i2) nd hN2 hl2 hf2) pgs_nil hsx2) hsx1) hnn hst) (show PSs X body (tLoopC i1 i2 C Pv D) from PSs.fam fun z => hs z.j z.q z.σ' z.H' z.at_ z.p) hfs) fun D' σ' H' q => ?_
  obtain ⟨rfl, rfl, rfl⟩ := q
  refine ⟨rfl, Ex.refl _, fun v H1 e1 hv' => ?_⟩
  subst hv'
  obtain ⟨t, xs, rfl, q1, q2⟩ := tp_lst (hl 0 _ _ (h0 H1 e1))
  have lenC : (dC C).length = C.length := List.length_map ..
  refine ⟨t, rfl, ⟨xs, SqL.of q1⟩, for_dL (ds := dC C) (g := gTup X.K 2 (gCons (gName i1) (gCons (gName i2) gNil))) (tb := tLoopC i1 i2 C Pv D') Pv (h0 H1 e1) (fun j σ2 H2 p => hl j σ2 H2 p) (fun j d x σ2 H2 hx ht p => ?_) (fun σ2 H2 p => hd σ2 H2 (by rw [lenC] at p; exact p))⟩
  unfold dC at hx
  rw [List.getElem?_map] at hx
  cases hC : C[j]? with
  | none => rw [hC] at hx; cases hx
  | some q =>
    rw [hC] at hx
    have ed := Option.some.inj hx
    rw [← ed] at ht
    obtain ⟨u, ys, rfl, w1, w2⟩ := tp_tup ht
    obtain ⟨u1, u2, rfl, t1, t2⟩ := tpA2 w2
    rw [tp_int t1, tp_int t2] at w1
    exact ⟨u, _, rfl, SqT.of w1, rfl, _, _, rfl, _, _, rfl, rfl, ⟨j, q, σ2, H2, hC, p⟩, rfl, rfl, rfl⟩
/-- y = [{} for _ in range(n)] -/
theorem j_setDicts {scope : Scope} {y z : Str} {py pz spos p3 dp : Pos} {i iy n : Nat} (nd : X.N.Nodup) (hm : X.mg "range" = none) (ha : JD X a σ H (.int n)) (hn : n ≤ 1000)
    (k : ∀ D' as H1, By H D' as (List.replicate n []) H1 → D.nx (σ.set iy (some (.ref D'))) H1) (hg : Gl X "range" := by rfl) (he : starEach [a] X.env = [(false, eval a X.env)] := by rfl)
    (hNy : X.N[iy]? = some y := by rfl) (hyl : X.env.scope.names.lookup y = some .local := by rfl) (hsw : swapsWith (.ListComp (.Dict [] [] dp) [⟨.Name z pz, .Call (.Name "range" p2) [a] [] p3, [], 0⟩] scope pos) (some (.Name y py)) spos.line X.env = pure true := by exact sw_true rfl rfl rfl (by decide +kernel))
    (hc : X.calm = true := by rfl) (ok : blkC X.N X.env.scope scope [(z, i)] = true := by kernel_rfl) (hN : X.N[i]? = some z := by rfl) (hz : ∀ C cl, Loc (compEnvC scope cl C X.env).scope z := by first | (intros; exact Or.inl rfl) | (intros; exact Or.inr rfl)) (hzf : ∀ s0 H0 C cl fp, (X.blk s0 H0 scope (compEnvC scope cl C X.env) fp).fn z = true ∨ (compEnvC scope cl C X.env).scope.names.lookup z = some .local := by first | (intros; exact Or.inr rfl) | (intros; exact Or.inl rfl)) (hs : ∀ x, foldedSetIterable (.Call (.Name "range" p2) [a] [] p3) X.env x = pure x := by intro _; rfl) :
    J1 X (.Assign [.Name y py] (.ListComp (.Dict [] [] dp) [⟨.Name z pz, .Call (.Name "range" p2) [a] [] p3, [], 0⟩] scope pos) spos) σ H D :=
  PS.cq (ps_setLc (own := [(z, i)]) (g := gName i) hc nd hNy hyl hsw (pi_range1 hg hm (ja_cons ha ja_nil he) he) (blkOk_by ok) (fun s0 H0 C cl fp => pg_name nd hN (hz C cl) (hzf s0 H0 C cl fp)) (fun s0 H0 C cl fp => pts_nil) (fun s0 H0 C cl fp => pe_dnewK) hs) fun D' σ' H' q => by
    obtain ⟨rfl, rfl, rfl⟩ := q
    refine ⟨rfl, Ex.refl _, fun vs H1 e1 hv => ?_⟩
    obtain ⟨v, rfl, hv1⟩ := tpA1 hv
    rw [tp_int hv1]
    refine ⟨n, rfl, by omega, by omega, fun Dd hD => ?_⟩
    rw [show ((n : Int)).toNat = n by simp]
    refine lc_range (lo := 0) (n := n) (fun j H' => Ex H1 H' ∧ ∃ as : List Addr, H' Dd = some (.lst (as.map V.ref)) ∧ as.length = j ∧ as.Nodup ∧ ∀ a ∈ as, H1 a = none ∧ H' a = some (.dK [])) ⟨Ex.nw hD, [], upd_same, rfl, List.nodup_nil, fun a h => absurd h (by simp)⟩ (fun j H' hj p => ⟨wipe1 _ _ _, tY ?_⟩) (fun H' p => ?_)
    · obtain ⟨p1, as, p2, p3, p4, p5⟩ := p
      refine iteT fun d hd => ?_
      have hdD : Dd ≠ d := fun z => by rw [z, hd] at p2; cases p2
      refine ⟨as.map V.ref, by rw [upd_ne hdD]; exact p2, sz2 (by rw [List.length_map]; omega), Evl.Ex.mut (p1.trans (Ex.nw hd)) hD, as ++ [d], ?_, by rw [List.length_append]; simp; exact p3, List.nodup_append.mpr ⟨p4, by simp, fun a ha b hb => ?_⟩, fun a ha => ?_⟩
      · rw [upd_same, List.map_append]
        rfl
      · rw [List.mem_singleton.mp hb]
        rintro rfl
        rw [(p5 a ha).2] at hd
        cases hd
      · rcases List.mem_append.mp ha with ha | ha
        · have h5 := p5 a ha
          have n1 : a ≠ Dd := fun z => by rw [z, p2] at h5; cases h5.2
          have n2 : a ≠ d := fun z => by rw [z, hd] at h5; cases h5.2
          exact ⟨h5.1, by rw [upd_ne n1, upd_ne n2]; exact h5.2⟩
        · rw [List.mem_singleton.mp ha]
          exact ⟨fresh_back p1 hd, by rw [upd_ne (Ne.symm hdD)]; exact upd_same⟩
    · obtain ⟨p1, as, p2, p3, p4, p5⟩ := p
      refine k Dd as H' ⟨e1.trans p1, fresh_back e1 hD, p2, p4, by rw [p3, List.length_replicate], fun j a hj => ?_⟩
      have h5 := p5 a (List.mem_of_getElem? hj)
      refine ⟨fresh_back e1 h5.1, [], h5.2, ?_⟩
      rw [List.getD_eq_getElem?_getD, List.getElem?_replicate]
      split <;> rfl
/-- [elt for y in xs], xs a list of anything -/
structure Iv (H : Hp) (n : Nat) where
  j : Nat
  H' : Hp
  lt : j < n
  ex : Ex H H'
theorem jd_lcV {elt iter : Expr} {scope : Scope} {y : Str} {py : Pos} {i : Nat} {l : Addr} {xs : List V} {g : Nat → PyData} (nd : X.N.Nodup) (hi : JV X iter σ H (.ref l)) (hl : H l = some (.lst xs)) (hn : xs.length ≤ 1000) (fl : ∀ j, flt (g j) = true)
    (helt : ∀ (s0 : Shared) (H0 : Hp) (C : Addr) (cl : List (Str × Addr)) (fp : List Addr) (j : Nat) (hj : j < xs.length) (H' : Hp), Ex H H' → JD (X.blk s0 H0 scope (compEnvC scope cl C X.env) fp) elt ((wipe σ [i]).set i (some xs[j])) H' (g j))
    (hc : X.calm = true := by rfl) (ok : blkC X.N X.env.scope scope [(y, i)] = true := by kernel_rfl) (hN : X.N[i]? = some y := by rfl) (hy : ∀ C cl, Loc (compEnvC scope cl C X.env).scope y := by first | (intros; exact Or.inl rfl) | (intros; exact Or.inr rfl)) (hyf : ∀ s0 H0 C cl fp, (X.blk s0 H0 scope (compEnvC scope cl C X.env) fp).fn y = true ∨ (compEnvC scope cl C X.env).scope.names.lookup y = some .local := by first | (intros; exact Or.inr rfl) | (intros; exact Or.inl rfl)) (hs : ∀ x, foldedSetIterable iter X.env x = pure x := by intro _; rfl) :
    JD X (.ListComp elt [⟨.Name y py, iter, [], 0⟩] scope pos) σ H (.list ((List.range xs.length).map g)) :=
  PE.cq (pe_lc (own := [(y, i)]) (g := gName i) (te := fun σ2 H2 Q => ∃ z : Iv H xs.length, tD ((wipe σ [i]).set i (some (xs[z.j]'z.lt))) z.H' (g z.j) σ2 H2 Q) hc nd (pi_list hi) (blkOk_by ok) (fun s0 H0 C cl fp => pg_name nd hN (hy C cl) (hyf s0 H0 C cl fp)) (fun s0 H0 C cl fp => pts_nil) (fun s0 H0 C cl fp => PE.fam fun z => helt s0 H0 C cl fp z.j z.lt z.H' z.ex) hs) fun σ' H1 Q q => by
    obtain ⟨rfl, e1, q⟩ := q
    refine ⟨rfl, e1, fun v H2 e2 hv => ?_⟩
    subst hv
    have hl2 : H2 l = some (.lst xs) := (e1.trans e2) _ _ hl
    refine ⟨l, rfl, ⟨xs, SqL.of hl2⟩, fun D hD => lc_list (xs := xs) (K := X.K) (g := gName i) (tt := tYes) (te := fun σ2 H2 Q => ∃ z : Iv H xs.length, tD ((wipe σ' [i]).set i (some (xs[z.j]'z.lt))) z.H' (g z.j) σ2 H2 Q) (vs := [i]) (σ := σ') (Qd := fun H => Q (.ref D) H) (fun j H' => Ex H2 H' ∧ ∃ acc, H' D = some (.lst acc) ∧ TpA H' acc ((List.range j).map g)) ⟨Ex.nw hD, [], upd_same, .nil⟩ (fun j H' _ p => SqL.of (p.1 _ _ hl2)) (fun j y H' hy p => ⟨wipe1 _ _ _, tY ?_⟩) (fun H' p => ?_)⟩
    · obtain ⟨p1, acc, p2, p3⟩ := p
      have hj := (List.getElem?_eq_some_iff.mp hy).1
      have ey : xs[j] = y := (List.getElem?_eq_some_iff.mp hy).2
      subst ey
      refine iteT ⟨⟨j, H', hj, (e1.trans e2).trans p1⟩, rfl, Ex.refl _, fun v H3 e3 hv => ?_⟩
      have hD3 : H3 D = some (.lst acc) := e3 _ _ p2
      have nT : ∀ ys, H3 D ≠ some (.tup ys) := fun ys z => by rw [hD3] at z; cases z
      refine ⟨acc, hD3, sz2 (by rw [p3.len, List.length_map, List.length_range]; omega), Evl.Ex.mut (p1.trans e3) hD, acc ++ [v], upd_same, ?_⟩
      rw [List.range_succ, List.map_append]
      exact ((p3.ex e3).upd (fltA_map g fl _) nT).snoc (hv.upd (fl j) nT)
    · obtain ⟨p1, acc, p2, p3⟩ := p
      exact q _ _ (e2.trans p1) (.lst p2 p3)
/-- list(d), d a dict with whole numbers as keys -/
theorem jd_listI {kvs : List (L2.Key × V)} {ks : List Int} {d : Addr} (hK : KeysI kvs ks) (hc : X.calm = true) (hm : X.mg "list" = none) (ha : JV X a σ H (.ref d)) (hd : H d = some (.dK kvs)) (hg : Gl X "list" := by rfl) (he : starEach [a] X.env = (false, eval a X.env) :: starEach [] X.env := by rfl) :
    JD X (.Call (.Name "list" p) [a] [] p2) σ H (dL ks) := PE.cq (pe_callTy (call_list_dK hc) hg hm bt_list (pa_cons ha pa_nil he) (by decide) (by decide) he (by rfl)) fun σ' H1 Q q => by
  obtain ⟨rfl, e1, q⟩ := q
  refine ⟨rfl, e1, fun v H2 e2 hv => ?_⟩
  subst hv
  refine ⟨d, kvs, rfl, (e1.trans e2) _ _ hd, fun t ht => q _ _ (e2.trans (Ex.nw ht)) ?_⟩
  have e : (kvs.map fun kv => kV kv.1) = ks.map V.int := by
    have e1 : (kvs.map fun kv => kV kv.1) = (kvs.map (·.1)).map kV := by rw [List.map_map]; rfl
    rw [e1, hK, List.map_map]
    rfl
  rw [e]
  exact .lst upd_same (tpA_ints ks)
/-- sorted(xs), xs unlike whole numbers -/
theorem jd_srtI {ks : List Int} (hnd : ks.Nodup) (hl : ks.length < 64) (hm : X.mg "sorted" = none) (ha : JD X a σ H (dL ks)) (hg : Gl X "sorted" := by rfl) (he : starEach [a] X.env = (false, eval a X.env) :: starEach [] X.env := by rfl) :
    JD X (.Call (.Name "sorted" p) [a] [] p2) σ H (dL (sortU ks)) := by
  refine jd_callB cr_sorted (ds := [dL ks]) (fun vs H1 Q hvs q => ?_) hm bt_sorted (ja_cons ha ja_nil he) hg (he := he) (hpl := by rfl)
  obtain ⟨v, rfl, hv⟩ := tpA1 hvs
  obtain ⟨t, xs, rfl, h1, h2⟩ := tp_lst hv
  rw [h2.ints] at h1
  refine ⟨t, ks, rfl, SqL.of h1, hl, fun ns' r hp hs hr => ?_⟩
  have hnd' : ns'.Nodup := hp.nodup_iff.mpr hnd
  have hlt : ns'.Pairwise (· < ·) := (hs.and hnd').imp fun ⟨h1, h2⟩ => by omega
  have e : ns' = sortU ks := up_same hlt (up_sortU ks) fun z => by rw [mem_sortU, hp.mem_iff]
  subst e
  exact q _ _ (Ex.nw hr) (.lst upd_same (tpA_ints _))
end
section
variable {P : Program} {w : World} {K : PySem.W.Frag} {mg : Str → Option Value} {base : Heap}
abbrev sBy : Stmt := topS 46
theorem scBy : FnScope ["_law_many", "_law_couples", "_law_found", "_law_one", "_law_other", "_law_person", "_law_own"] ["_law_many", "_law_couples"] (defScope sBy) := ⟨rfl, rfl, rfl, by decide +kernel, rfl, by decide +kernel, by decide +kernel⟩
theorem nodup_lenI : ∀ {K C : List Int}, K.Nodup → (∀ k ∈ K, k ∈ C) → K.length ≤ C.length
  | [], _, _, _ => Nat.zero_le _
  | k :: K, C, h, hs => by
    obtain ⟨h1, h2⟩ := List.nodup_cons.mp h
    have hk := hs k List.mem_cons_self
    have q := nodup_lenI (K := K) (C := C.erase k) h2 fun x hx => by
      have hne : x ≠ k := fun z => h1 (z ▸ hx)
      exact (List.mem_erase_of_ne hne).mpr (hs x (List.mem_cons_of_mem _ hx))
    rw [List.length_erase_of_mem hk] at q
    have : 0 < C.length := List.length_pos_of_mem hk
    rw [List.length_cons]
    omega
theorem Sy.small {n : Nat} {KS : List (List Int)} (h : Sy n KS) {k : Nat} (hk : k < n) : (KS.getD k []).length ≤ n := by
  have := nodup_lenI (h.nd k hk) (C := upto n) fun x hx => mem_upto.mpr ⟨(h.ok k hk x hx).1, (h.ok k hk x hx).2.1⟩
  rw [upto_len] at this
  exact this
/-- one of the two puts -/
theorem ok_by (B : Bt mg) (F : Df K mg "_law_by" sBy ["_law_many", "_law_couples"]) : OkC P w K mg base CX0 "_law_by" 1 ["_law_many", "_law_couples"] spBy := by
  refine ok_defS F scBy (fun vs H Q E h => by obtain ⟨n, C, vc, rfl, _⟩ := h; rfl) (fun f cdv A outer s H E vs Q hr hR => ?_)
  obtain ⟨n, C, vc, rfl, n1, n5, hC, lC, tc, q⟩ := hR
  refine js_cons (j_setDicts (i := 5) (iy := 2) (n := n) scBy.nd B.range (jd_var 0 (.int n)) (by omega) fun D as H1 b1 => ?_)
  refine js_cons (j_forC (i1 := 3) (i2 := 4) (C := C) (v0 := vc) scBy.nd (jv_var 1 rfl) (fun j σ' H' => ∃ KS o3 o4, σ' = [some (.int n), some vc, some (.ref D), o3, o4, none, none] ∧ By H D as KS H' ∧ Sy n KS)
    (fun H2 e2 => ⟨_, none, none, rfl, b1.mono e2, sy_nil n⟩) (fun j σ' H' p => by obtain ⟨KS, o3, o4, _, b, _⟩ := p; exact tc.ex b.ex) (fun j c σ' H' hj p => ?_) (fun σ' H' p => ?_))
  · obtain ⟨KS, o3, o4, rfl, b, sy⟩ := p
    obtain ⟨a, bb⟩ := c
    obtain ⟨h1, h2, h3⟩ := hC _ (List.mem_of_getElem? hj)
    dsimp only at h1 h2 h3
    obtain ⟨a, rfl⟩ : ∃ a' : Nat, a = (a' : Int) := ⟨a.toNat, by omega⟩
    obtain ⟨bb, rfl⟩ : ∃ b' : Nat, bb = (b' : Int) := ⟨bb.toNat, by omega⟩
    have la : a < n := by omega
    have lb : bb < n := by omega
    have hne : a ≠ bb := by omega
    have sy2 := sy.put la lb hne
    have lasl : as.length = n := by rw [b.len, sy.len]
    have ga : as[a]? = some (as[a]'(by omega)) := List.getElem?_eq_getElem (by omega)
    have gb : as[bb]? = some (as[bb]'(by omega)) := List.getElem?_eq_getElem (by omega)
    obtain ⟨_, kvs, k1, k2⟩ := b.at_ a _ ga
    have sz := sy.small la
    refine js_cons (j_dputK hr.units (jv_ixL (n := a) (jv_var 2 rfl) (jd_var 3 (.int a)) b.lst (by rw [List.getElem?_map, ga]; rfl)) (jd_var 4 (.int bb)) jd_bl k1 (by rw [k2.len]; omega) fun v H2 e2 => ?_)
    have b2 := (b.mono e2).put (x := (bb : Int)) (v := v) ga (e2 _ _ k1) k2
    generalize upd H2 (as[a]'(by omega)) (.dK (putK kvs (.inl (bb : Int)) v)) = H3 at b2 ⊢
    obtain ⟨_, kvs', k1', k2'⟩ := b2.at_ bb _ gb
    have sz' : ((adj KS a bb).getD bb []).length ≤ n := by
      rw [adj_at (by rw [sy.len]; exact la), if_neg (Ne.symm hne)]
      exact sy.small lb
    refine js_one (j_dputK hr.units (jv_ixL (n := bb) (jv_var 2 rfl) (jd_var 4 (.int bb)) b2.lst (by rw [List.getElem?_map, gb]; rfl)) (jd_var 3 (.int a)) jd_bl k1' (by rw [k2'.len]; omega) fun v' H4 e4 => ?_)
    exact ⟨_, _, _, rfl, (b2.mono e4).put (x := (a : Int)) (v := v') gb (e4 _ _ k1') k2', sy2⟩
  · obtain ⟨KS, o3, o4, rfl, b, sy⟩ := p
    have lasl : as.length = n := by rw [b.len, sy.len]
    refine js_one (j_ret (d := dW (KS.map sortU)) (jd_is (jd_tupleL B.tuple (jd_lcV (i := 6) (l := D) (xs := as.map V.ref) (g := fun j => dI (sortU (KS.getD j []))) scBy.nd (jv_var 2 rfl) b.lst (by rw [List.length_map]; omega) (fun j => flt_I _) fun s0 H0 C0 cl fp j hj H2 e2 => ?_)) ?_) fun v H2 e2 hv => q _ v H2 (sy.wb n1 n5) (b.ex.trans e2) hv)
    · have hj' : j < n := by rw [List.length_map] at hj; omega
      have ga : as[j]? = some (as[j]'(by omega)) := List.getElem?_eq_getElem (by omega)
      obtain ⟨_, kvs, k1, k2⟩ := b.at_ j _ ga
      have sz := sy.small hj'
      refine jd_tupleL B.tuple (jd_srtI (sy.nd j hj') (by omega) B.sorted (jd_listI k2 rfl B.list (jv_var 6 ?_) (e2 _ _ k1)))
      show some (some ((as.map V.ref)[j])) = _
      rw [List.getElem_map]
    · unfold dW
      rw [List.length_map, lasl, List.map_map]
      congr 1
      apply List.ext_getElem?
      intro j
      rw [List.getElem?_map, List.getElem?_map]
      by_cases hj : j < n
      · have hk : j < KS.length := by rw [sy.len]; exact hj
        rw [List.getElem?_range hj, List.getElem?_eq_getElem hk]
        show some (dI (sortU (KS.getD j []))) = some (dI (sortU KS[j]))
        rw [List.getD_eq_getElem?_getD, List.getElem?_eq_getElem hk]
        rfl
      · rw [List.getElem?_eq_none (by rw [List.length_range]; omega), List.getElem?_eq_none (by rw [sy.len]; omega)]
        rfl
end
end TJ
set_option Elab.async false
set_option linter.all false
set_option maxRecDepth 100000
set_option maxHeartbeats 4000000
namespace TJ
open PySem PySem.Spec PyProof.Rows L2
/-! ### the search finds all, and nothing else -/
section
variable {W : List (List Int)}
theorem step_mono {here : List Int} {s : SS} {p : Int} : (∀ k ∈ s.1, k ∈ (stepM W here s p).1) ∧ (∀ k ∈ s.2, k ∈ (stepM W here s p).2) ∧ (∀ k ∈ (stepM W here s p).1, k ∈ s.1 ∨ (k ∈ (stepM W here s p).2 ∧ k = callM W here p)) ∧ callM W here p ∈ (stepM W here s p).1 := by
  unfold stepM
  split
  · rename_i h
    exact ⟨fun k hk => hk, fun k hk => hk, fun k hk => .inl hk, h⟩
  · refine ⟨fun k hk => List.mem_append_left _ hk, fun k hk => List.mem_append_left _ hk, fun k hk => ?_, List.mem_append_right _ (List.mem_singleton.mpr rfl)⟩
    rcases List.mem_append.mp hk with hk | hk
    · exact .inl hk
    · exact .inr ⟨List.mem_append_right _ hk, List.mem_singleton.mp hk⟩
theorem steps_mono {here : List Int} : ∀ (ps : List Int) {s : SS}, (∀ k ∈ s.1, k ∈ (ps.foldl (stepM W here) s).1) ∧ (∀ k ∈ s.2, k ∈ (ps.foldl (stepM W here) s).2) ∧ (∀ k ∈ (ps.foldl (stepM W here) s).1, k ∈ s.1 ∨ (k ∈ (ps.foldl (stepM W here) s).2 ∧ ∃ p ∈ ps, k = callM W here p)) ∧ ∀ p ∈ ps, callM W here p ∈ (ps.foldl (stepM W here) s).1
  | [], s => ⟨fun k hk => hk, fun k hk => hk, fun k hk => .inl hk, fun p hp => absurd hp (by simp)⟩
  | p :: ps, s => by
    obtain ⟨a1, a2, a3, a4⟩ := step_mono (W := W) (here := here) (s := s) (p := p)
    obtain ⟨b1, b2, b3, b4⟩ := steps_mono ps (s := stepM W here s p)
    refine ⟨fun k hk => b1 k (a1 k hk), fun k hk => b2 k (a2 k hk), fun k hk => ?_, fun q hq => ?_⟩
    · rcases b3 k hk with z | ⟨z, q, hq, e⟩
      · rcases a3 k z with z | ⟨z, e⟩
        · exact .inl z
        · exact .inr ⟨b2 k z, p, List.mem_cons_self, e⟩
      · exact .inr ⟨z, q, List.mem_cons_of_mem _ hq, e⟩
    · rcases List.mem_cons.mp hq with rfl | hq
      · exact b1 _ a4
      · exact b4 q hq
theorem rounds_mono : ∀ (L : List (List Int)) {s : SS}, (∀ k ∈ s.1, k ∈ (L.foldl (roundM W) s).1) ∧ (∀ k ∈ s.2, k ∈ (L.foldl (roundM W) s).2) ∧ (∀ k ∈ (L.foldl (roundM W) s).1, k ∈ s.1 ∨ (k ∈ (L.foldl (roundM W) s).2 ∧ ∃ here ∈ L, ∃ p ∈ moversM W here, k = callM W here p)) ∧ ∀ here ∈ L, ∀ p ∈ moversM W here, callM W here p ∈ (L.foldl (roundM W) s).1
  | [], s => ⟨fun k hk => hk, fun k hk => hk, fun k hk => .inl hk, fun p hp => absurd hp (by simp)⟩
  | h :: L, s => by
    obtain ⟨a1, a2, a3, a4⟩ := steps_mono (W := W) (here := h) (moversM W h) (s := s)
    obtain ⟨b1, b2, b3, b4⟩ := rounds_mono L (s := roundM W s h)
    refine ⟨fun k hk => b1 k (a1 k hk), fun k hk => b2 k (a2 k hk), fun k hk => ?_, fun q hq => ?_⟩
    · rcases b3 k hk with z | ⟨z, q, hq, e⟩
      · rcases a3 k z with z | ⟨z, p, hp, e⟩
        · exact .inl z
        · exact .inr ⟨b2 k z, h, List.mem_cons_self, p, hp, e⟩
      · exact .inr ⟨z, q, List.mem_cons_of_mem _ hq, e⟩
    · rcases List.mem_cons.mp hq with rfl | hq
      · exact fun p hp => b1 _ (a4 p hp)
      · exact b4 q hq
/-- what is found is closed under calls -/
theorem search_closed {S : List Int} : ∀ (n : Nat) {K last : List (List Int)}, Gd S n (K, last) → (∀ k ∈ K, k ∉ last → ∀ p ∈ moversM W k, callM W k p ∈ K) → (∀ k ∈ K, k ∈ searchM W n K last) ∧ ∀ k ∈ searchM W n K last, ∀ p ∈ moversM W k, callM W k p ∈ searchM W n K last
  | 0, K, last, g, h => ⟨fun k hk => hk, fun k hk => h k hk fun z => absurd (g.fs k z).2 (Nat.not_lt_zero _)⟩
  | n + 1, K, last, g, h => by
    rw [searchM]
    split
    · rename_i e
      subst e
      exact ⟨fun k hk => hk, fun k hk => h k hk (by simp)⟩
    · have g0 : Gd S n (K, []) := ⟨g.nd, g.sub, Nat.zero_le _, fun f hf => absurd hf (by simp)⟩
      have g1 : Gd S n (layerM W K last) := Gd.rounds last (fun f hf => ⟨(g.fs f hf).1, Nat.le_of_lt_succ (g.fs f hf).2⟩) g0
      obtain ⟨b1, b2, b3, b4⟩ := rounds_mono (W := W) last (s := (K, []))
      obtain ⟨c1, c2⟩ := search_closed n (K := (layerM W K last).1) (last := (layerM W K last).2) g1 fun k hk hn p hp => by
        rcases b3 k hk with z | ⟨z, _⟩
        · by_cases hl : k ∈ last
          · exact b4 k hl p hp
          · exact b1 _ (h k z hl p hp)
        · exact absurd z hn
      exact ⟨fun k hk => c1 k (b1 k hk), c2⟩
theorem search_all {P : List Int → Prop} (hs : ∀ h, P h → ∀ p ∈ moversM W h, P (callM W h p)) : ∀ (n : Nat) {K last : List (List Int)}, (∀ k ∈ K, P k) → (∀ k ∈ last, P k) → ∀ k ∈ searchM W n K last, P k
  | 0, K, last, h1, h2 => h1
  | n + 1, K, last, h1, h2 => by
    rw [searchM]
    split
    · exact h1
    · obtain ⟨b1, b2, b3, b4⟩ := rounds_mono (W := W) last (s := (K, []))
      have key : ∀ (L : List (List Int)) (s : SS), (∀ k ∈ L, P k) → (∀ k ∈ s.2, P k) → ∀ k ∈ (L.foldl (roundM W) s).2, P k := by
        intro L
        induction L with
        | nil => intro s _ h; exact h
        | cons h L ih =>
          intro s hL hs2
          refine ih _ (fun k hk => hL k (List.mem_cons_of_mem _ hk)) ?_
          have key2 : ∀ (ps : List Int) (s : SS), (∀ p ∈ ps, p ∈ moversM W h) → (∀ k ∈ s.2, P k) → ∀ k ∈ (ps.foldl (stepM W h) s).2, P k := by
            intro ps
            induction ps with
            | nil => intro s _ h; exact h
            | cons p ps ih2 =>
              intro s hp hs2
              refine ih2 _ (fun q hq => hp q (List.mem_cons_of_mem _ hq)) fun k hk => ?_
              unfold stepM at hk
              split at hk
              · exact hs2 k hk
              · rcases List.mem_append.mp hk with hk | hk
                · exact hs2 k hk
                · rw [List.mem_singleton.mp hk]
                  exact hs h (hL h List.mem_cons_self) p (hp p List.mem_cons_self)
          exact key2 _ s (fun _ z => z) hs2
      refine search_all hs n (fun k hk => ?_) (key last (K, []) h2 fun k hk => absurd hk (by simp))
      rcases b3 k hk with z | ⟨_, here, hh, p, hp, e⟩
      · exact h1 k z
      · rw [e]; exact hs here (h2 here hh) p hp
theorem found_start (S : List Int) : Gd S (S.length + 1) ([S], [S]) := ⟨by simp, fun k hk => by rw [List.mem_singleton.mp hk]; exact List.Sublist.refl _, Nat.le_refl _, fun f hf => by rw [List.mem_singleton.mp hf]; exact ⟨List.Sublist.refl _, Nat.lt_succ_self _⟩⟩
theorem found_self (S : List Int) : S ∈ foundM W S := (search_closed _ (found_start S) fun k hk hn => absurd hk hn).1 S List.mem_cons_self
theorem found_step {S k : List Int} (h : k ∈ foundM W S) {p : Int} (hp : p ∈ moversM W k) : callM W k p ∈ foundM W S := (search_closed _ (found_start S) fun k hk hn => absurd hk hn).2 k h p hp
theorem found_all {P : List Int → Prop} {S : List Int} (h0 : P S) (hs : ∀ h, P h → ∀ p ∈ moversM W h, P (callM W h p)) {k : List Int} (hk : k ∈ foundM W S) : P k := search_all hs _ (fun k hk => by rw [List.mem_singleton.mp hk]; exact h0) (fun k hk => by rw [List.mem_singleton.mp hk]; exact h0) k hk
theorem call_still {S : List Int} {p : Int} (h : p ∉ moversM W S) : callM W S p = S := by
  by_cases hp : p ∈ S
  · unfold callM
    rw [if_pos hp]
    refine List.filter_eq_self.mpr fun q hq => ?_
    by_cases h1 : p ≤ q
    · simp [h1]
    · by_cases h2 : q ∈ fr W p
      · exact absurd (mem_movers.mpr ⟨hp, q, h2, by omega, hq⟩) h
      · simp [h2]
  · unfold callM
    rw [if_neg hp]
theorem found_call {S k : List Int} (h : k ∈ foundM W S) (p : Int) : callM W k p ∈ foundM W S := by
  by_cases hp : p ∈ moversM W k
  · exact found_step h hp
  · rw [call_still hp]; exact h
theorem found_go {S : List Int} : ∀ (L : List Int) {k : List Int}, k ∈ foundM W S → goM W k L ∈ foundM W S
  | [], _, h => h
  | p :: L, _, h => found_go L (found_call h p)
/-- none of them is empty -/
theorem found_ne {S k : List Int} (hS : S ≠ []) (h : k ∈ foundM W S) : k ≠ [] := by
  refine found_all (P := fun k => k ≠ []) hS (fun h _ p hp => ?_) h
  have hm := (mem_movers.mp hp).1
  exact List.ne_nil_of_mem ((mem_call hm).mpr ⟨hm, .inl (Int.le_refl _)⟩)
theorem found_nil : foundM W [] = [[]] := by
  have e : moversM W [] = [] := rfl
  show searchM W 1 [[]] [[]] = [[]]
  rw [searchM, if_neg (by simp)]
  show (layerM W [[]] [[]]).1 = [[]]
  unfold layerM
  rw [List.foldl_cons, List.foldl_nil]
  unfold roundM
  rw [e]
  rfl
theorem srt_found (S : List Int) (f : List Int → Bool) : SrtOk ((foundM W S).filter f) := by
  by_cases hS : S = []
  · subst hS
    rw [found_nil, List.filter_cons]
    by_cases hf : f [] = true
    · rw [if_pos hf]
      exact .inr rfl
    · rw [if_neg hf]
      exact .inl fun r hr => absurd hr (by simp)
  · exact .inl fun r hr => found_ne hS (List.mem_filter.mp hr).1
/-- there is an end -/
theorem end_some (S : List Int) : ∃ e ∈ foundM W S, moversM W e = [] := by
  have key : ∀ n, ∀ k ∈ foundM W S, k.length ≤ n → ∃ e ∈ foundM W S, moversM W e = [] := by
    intro n
    induction n with
    | zero =>
      intro k hk hl
      have e : k = [] := List.eq_nil_of_length_eq_zero (Nat.le_zero.mp hl)
      subst e
      exact ⟨[], hk, rfl⟩
    | succ n ih =>
      intro k hk hl
      cases hm : moversM W k with
      | nil => exact ⟨k, hk, hm⟩
      | cons p ps =>
        have hp : p ∈ moversM W k := by rw [hm]; exact List.mem_cons_self
        exact ih _ (found_step hk hp) (by have := call_lt hp; omega)
  exact key S.length S (found_self S) (Nat.le_refl _)
end
/-! ### a row of calls -/
theorem fr_sym {W : List (List Int)} (h : Wb W) {p q : Int} (hp : 0 ≤ p ∧ p < W.length) (hq : q ∈ fr W p) : p ∈ fr W q := by
  have hqr := (h.frAsc hp.1 hp.2).lt q hq
  obtain ⟨gs, h1, h2⟩ := h.sym p.toNat q.toNat _ (h.fr hp.1 hp.2) (by rw [Int.toNat_of_nonneg hqr.1]; exact hq)
  have h3 := h.fr hqr.1 hqr.2
  rw [h1] at h3
  rw [← Option.some.inj h3, ← Int.toNat_of_nonneg hp.1]
  exact h2
theorem fr_own {W : List (List Int)} (h : Wb W) {p : Int} (hp : 0 ≤ p ∧ p < W.length) : p ∉ fr W p := fun z => h.own p.toNat _ (h.fr hp.1 hp.2) (by rw [Int.toNat_of_nonneg hp.1]; exact z)
theorem go_asc {W : List (List Int)} : ∀ {L S : List Int}, L.Pairwise (· < ·) → (∀ p ∈ L, p ∈ S) → goM W S L = S.filter fun q => !(L.any fun p => decide (q < p) && decide (q ∈ fr W p))
  | [], S, _, _ => by
    show S = _
    symm
    exact List.filter_eq_self.mpr fun _ _ => rfl
  | p :: L, S, hup, hs => by
    obtain ⟨h1, h2⟩ := List.pairwise_cons.mp hup
    have hp := hs p List.mem_cons_self
    show goM W (callM W S p) L = _
    rw [go_asc h2 fun x hx => (mem_call hp).mpr ⟨hs x (List.mem_cons_of_mem _ hx), .inl (by have := h1 x hx; omega)⟩]
    unfold callM
    rw [if_pos hp, List.filter_filter]
    refine List.filter_congr fun q _ => ?_
    rw [List.any_cons]
    by_cases a : q < p <;> by_cases b : q ∈ fr W p
    · have : ¬ p ≤ q := by omega
      simp [a, b, this]
    · have : ¬ p ≤ q := by omega
      simp [a, b, this]
    · have : p ≤ q := by omega
      simp [a, b, this]
    · have : p ≤ q := by omega
      simp [a, b, this]
theorem lowF_iff {W : List (List Int)} {p : Int} {G : List Int} : lowF W p G = true ↔ ∃ o, o ∈ fr W p ∧ o < p ∧ o ∈ G := by
  unfold lowF
  rw [List.any_eq_true]
  constructor
  · rintro ⟨o, h1, h2⟩
    rw [Bool.and_eq_true, decide_eq_true_eq, decide_eq_true_eq] at h2
    exact ⟨o, h1, h2⟩
  · rintro ⟨o, h1, h2, h3⟩
    exact ⟨o, h1, by rw [Bool.and_eq_true, decide_eq_true_eq, decide_eq_true_eq]; exact ⟨h2, h3⟩⟩
theorem mem_may {W : List (List Int)} {S G : List Int} {p : Int} : p ∈ mayM W S G ↔ p ∈ S ∧ ¬ ∃ o, o ∈ fr W p ∧ o < p ∧ o ∈ G := by
  unfold mayM
  rw [List.mem_filter, Bool.not_eq_true', ← Bool.not_eq_true, lowF_iff]
theorem fits_iff {W : List (List Int)} {S G : List Int} : fitsM W S G = true ↔ (∀ p ∈ G, p ∈ S) ∧ ∀ q ∈ S, q ∉ G → ∃ o, o ∈ fr W q ∧ q < o ∧ o ∈ mayM W S G := by
  unfold fitsM
  rw [Bool.and_eq_true, List.all_eq_true, List.all_eq_true]
  constructor
  · rintro ⟨h1, h2⟩
    refine ⟨fun p hp => of_decide_eq_true (h1 p hp), fun q hq hn => ?_⟩
    have h := h2 q (List.mem_filter.mpr ⟨hq, by simp [hn]⟩)
    obtain ⟨o, ho, hm⟩ := List.any_eq_true.mp h
    unfold tallM at ho
    rw [List.mem_filter, decide_eq_true_eq] at ho
    exact ⟨o, ho.1, ho.2, of_decide_eq_true hm⟩
  · rintro ⟨h1, h2⟩
    refine ⟨fun p hp => decide_eq_true (h1 p hp), fun q hq => ?_⟩
    rw [List.mem_filter] at hq
    obtain ⟨o, ho, hlt, hm⟩ := h2 q hq.1 (by simpa using hq.2)
    refine List.any_eq_true.mpr ⟨o, ?_, decide_eq_true hm⟩
    unfold tallM
    rw [List.mem_filter, decide_eq_true_eq]
    exact ⟨ho, hlt⟩
/-- all of those that may call, called in turn, leave the goal -/
theorem go_may {W : List (List Int)} {S G : List Int} (hW : Wb W) (hS : Asc W.length S) (hG : Asc W.length G) (h : fitsM W S G = true) : goM W S (mayM W S G) = G := by
  obtain ⟨h1, h2⟩ := fits_iff.mp h
  have am : Asc W.length (mayM W S G) := asc_filter _ hS
  rw [go_asc am.up fun p hp => (mem_may.mp hp).1]
  refine up_same (hS.up.filter _) hG.up fun q => ?_
  rw [List.mem_filter, Bool.not_eq_true', ← Bool.not_eq_true, List.any_eq_true]
  constructor
  · rintro ⟨hq, hn⟩
    by_cases hg : q ∈ G
    · exact hg
    · obtain ⟨o, ho, hlt, hm⟩ := h2 q hq hg
      exact absurd ⟨o, hm, by rw [Bool.and_eq_true, decide_eq_true_eq, decide_eq_true_eq]; exact ⟨hlt, fr_sym hW (hS.lt q hq) ho⟩⟩ hn
  · intro hg
    refine ⟨h1 q hg, ?_⟩
    rintro ⟨p, hp, hc⟩
    rw [Bool.and_eq_true, decide_eq_true_eq, decide_eq_true_eq] at hc
    exact (mem_may.mp hp).2 ⟨q, hc.2, hc.1, hg⟩
/-- what can be left standing -/
theorem found_iff {W : List (List Int)} {S G : List Int} (hW : Wb W) (hS : Asc W.length S) (hG : Asc W.length G) : G ∈ foundM W S ↔ fitsM W S G = true := by
  constructor
  · intro h
    refine (found_all (P := fun k => (∀ x ∈ k, x ∈ S) ∧ fitsM W S k = true) ⟨fun x hx => hx, ?_⟩ (fun k hk p hp => ?_) h).2
    · exact fits_iff.mpr ⟨fun p hp => hp, fun q hq hn => absurd hq hn⟩
    · obtain ⟨k1, k2⟩ := hk
      obtain ⟨f1, f2⟩ := fits_iff.mp k2
      have hpk := (mem_movers.mp hp).1
      have sub : ∀ x ∈ callM W k p, x ∈ k := fun x hx => ((mem_call hpk).mp hx).1
      refine ⟨fun x hx => k1 x (sub x hx), fits_iff.mpr ⟨fun x hx => k1 x (sub x hx), fun q hq hn => ?_⟩⟩
      by_cases hqk : q ∈ k
      · have hq2 : ¬ (p ≤ q ∨ q ∉ fr W p) := fun z => hn ((mem_call hpk).mpr ⟨hqk, z⟩)
        have hlt : q < p := by
          by_cases a : p ≤ q
          · exact absurd (.inl a) hq2
          · omega
        have hfr : q ∈ fr W p := by
          by_cases a : q ∈ fr W p
          · exact a
          · exact absurd (.inr a) hq2
        refine ⟨p, fr_sym hW (hS.lt p (k1 p hpk)) hfr, hlt, mem_may.mpr ⟨k1 p hpk, ?_⟩⟩
        rintro ⟨o, ho1, ho2, ho3⟩
        rcases ((mem_call hpk).mp ho3).2 with z | z
        · omega
        · exact z ho1
      · obtain ⟨o, ho1, ho2, ho3⟩ := f2 q hq hqk
        refine ⟨o, ho1, ho2, mem_may.mpr ⟨(mem_may.mp ho3).1, ?_⟩⟩
        rintro ⟨u, hu1, hu2, hu3⟩
        exact (mem_may.mp ho3).2 ⟨u, hu1, hu2, sub u hu3⟩
  · intro h
    have e := found_go (W := W) (mayM W S G) (found_self (W := W) S)
    rw [go_may hW hS hG h] at e
    exact e
end TJ
set_option Elab.async false
set_option linter.all false
set_option maxRecDepth 100000
set_option maxHeartbeats 4000000
namespace TJ
open PySem PySem.Spec PyProof.Rows L2
/-! ### sorted rows -/
theorem sortR_pw (A : List (List Int)) : (sortR A).Pairwise fun a b => decide (a ≤ b) = true := by
  unfold sortR
  refine List.pairwise_mergeSort (fun a b c h1 h2 => ?_) (fun a b => ?_) A
  · rw [decide_eq_true_eq] at *
    exact List.le_trans h1 h2
  · rw [Bool.or_eq_true, decide_eq_true_eq, decide_eq_true_eq]
    exact List.le_total a b
theorem sortR_perm {A B : List (List Int)} (h : A.Perm B) : sortR A = sortR B := by
  refine List.Perm.eq_of_pairwise (le := fun a b => decide (a ≤ b) = true) (fun a b _ _ h1 h2 => List.le_antisymm (of_decide_eq_true h1) (of_decide_eq_true h2)) (sortR_pw A) (sortR_pw B) ?_
  unfold sortR
  exact (List.mergeSort_perm A _).trans (h.trans (List.mergeSort_perm B _).symm)
theorem sortR_lt {A : List (List Int)} (h : A.Nodup) : (sortR A).Pairwise (· < ·) := by
  have hn : (sortR A).Nodup := (List.mergeSort_perm A _).nodup_iff.mpr h
  refine ((sortR_pw A).and hn).imp fun {a b} ⟨h1, h2⟩ => ?_
  have h1' : a ≤ b := of_decide_eq_true h1
  by_cases hl : a < b
  · exact hl
  · exact absurd (List.le_antisymm h1' hl) h2
theorem choices_nodup : ∀ S : List Int, S.Nodup → (choicesM S).Nodup := rev_ind (fun _ => by simp [choicesM]) fun S p ih hn => by
  obtain ⟨h1, h2, h3⟩ := List.nodup_append.mp hn
  rw [choices_snoc]
  refine List.nodup_append.mpr ⟨ih h1, ?_, fun a ha b hb => ?_⟩
  · refine List.pairwise_map.mpr ((ih h1).imp fun {a b} hab e => hab ?_)
    exact List.append_cancel_right e
  · obtain ⟨t, ht, rfl⟩ := List.mem_map.mp hb
    rintro rfl
    have : p ∈ S := ((mem_choices S _).mp ha).subset (List.mem_append_right _ (List.mem_singleton.mpr rfl))
    exact h3 p this p (List.mem_singleton.mpr rfl) rfl
theorem asc_nodup {n : Nat} {S : List Int} (h : Asc n S) : S.Nodup := h.up.imp fun {a b} h => by omega
/-! ### the ends -/
def lendsM (W : List (List Int)) (S : List Int) : List (List Int) := sortR ((foundM W S).filter fun h => decide (moversM W h = []))
theorem apart_iff {W : List (List Int)} {r : List Int} (hW : Wb W) (hr : Asc W.length r) : apartM W r = true ↔ moversM W r = [] := by
  unfold apartM
  rw [Bool.not_eq_true', ← Bool.not_eq_true, List.any_eq_true]
  constructor
  · intro h
    cases hm : moversM W r with
    | nil => rfl
    | cons p ps =>
      obtain ⟨h1, o, h2, h3, h4⟩ := mem_movers.mp (show p ∈ moversM W r by rw [hm]; exact List.mem_cons_self)
      exact absurd ⟨true, List.mem_flatMap.mpr ⟨p, h1, List.mem_map.mpr ⟨o, h4, decide_eq_true h2⟩⟩, rfl⟩ h
  · rintro hm ⟨b, hb, hb'⟩
    have hb' : b = true := hb'
    subst hb'
    obtain ⟨p, hp, hb⟩ := List.mem_flatMap.mp hb
    obtain ⟨o, ho, e⟩ := List.mem_map.mp hb
    have ho2 : o ∈ fr W p := of_decide_eq_true e
    have key : ∀ p o : Int, p ∈ r → o ∈ r → o ∈ fr W p → o < p → False := fun p o hp ho hf hl => by
      have : p ∈ moversM W r := mem_movers.mpr ⟨hp, o, hf, hl, ho⟩
      rw [hm] at this
      exact absurd this (by simp)
    rcases Int.lt_trichotomy o p with h | h | h
    · exact key p o hp ho ho2 h
    · subst h
      exact fr_own hW (hr.lt o ho) ho2
    · exact key o p ho hp (fr_sym hW (hr.lt p hp) ho2) h
theorem ends_eq {W : List (List Int)} {S : List Int} (hW : Wb W) (hS : Asc W.length S) : endsM W S = lendsM W S := by
  unfold endsM lendsM
  refine sortR_perm ((List.perm_ext_iff_of_nodup ((choices_nodup S (asc_nodup hS)).sublist List.filter_sublist) ((found_good W S).1.sublist List.filter_sublist)).mpr fun r => ?_)
  rw [List.mem_filter, List.mem_filter, mem_choices, Bool.and_eq_true, decide_eq_true_eq]
  constructor
  · rintro ⟨h1, h2, h3⟩
    have ar := asc_sub hS h1
    exact ⟨(found_iff hW hS ar).mpr h3, (apart_iff hW ar).mp h2⟩
  · rintro ⟨h1, h2⟩
    have hs := (found_good W S).2 r h1
    have ar := asc_sub hS hs
    exact ⟨hs, (apart_iff hW ar).mpr h2, (found_iff hW hS ar).mp h1⟩
theorem mem_lends {W : List (List Int)} {S r : List Int} : r ∈ lendsM W S ↔ r ∈ foundM W S ∧ moversM W r = [] := by
  unfold lendsM sortR
  rw [List.mem_mergeSort, List.mem_filter, decide_eq_true_eq]
theorem ends_ne {W : List (List Int)} {S : List Int} (hW : Wb W) (hS : Asc W.length S) : endsM W S ≠ [] := by
  rw [ends_eq hW hS]
  obtain ⟨e, h1, h2⟩ := end_some (W := W) S
  exact List.ne_nil_of_mem (mem_lends.mpr ⟨h1, h2⟩)
theorem ends_lt (W : List (List Int)) (S : List Int) (hS : S.Nodup) : (endsM W S).Pairwise (· < ·) := sortR_lt ((choices_nodup S hS).sublist List.filter_sublist)
/-! ### tellings -/
theorem tell_ne {W : List (List Int)} {S G : List Int} (hW : Wb W) (hS : Asc W.length S) (hG : Asc W.length G) (h : fitsM W S G = true) : tellM W S G ≠ [] := by
  refine List.ne_nil_of_mem (a := mayM W S G) ?_
  unfold tellM sortR
  rw [List.mem_mergeSort, List.mem_filter, mem_choices]
  refine ⟨List.Sublist.refl _, ?_⟩
  unfold leadsM
  rw [go_may hW hS hG h, decide_eq_true rfl]
theorem ends_fit {W : List (List Int)} {S e : List Int} (hW : Wb W) (hS : Asc W.length S) (h : e ∈ endsM W S) : fitsM W S e = true := by
  have hs := mem_ends h
  rw [ends_eq hW hS] at h
  exact (found_iff hW hS (asc_sub hS hs)).mp (mem_lends.mp h).1
theorem sub_of_up : ∀ {m l : List Int}, l.Pairwise (· < ·) → m.Pairwise (· < ·) → (∀ z ∈ l, z ∈ m) → l.Sublist m
  | [], [], _, _, _ => List.Sublist.refl _
  | [], x :: l, _, _, h => absurd (h x List.mem_cons_self) (by simp)
  | y :: r, [], _, _, _ => List.nil_sublist _
  | y :: r, x :: l, h1, h2, h => by
    obtain ⟨a1, a2⟩ := List.pairwise_cons.mp h1
    obtain ⟨b1, b2⟩ := List.pairwise_cons.mp h2
    by_cases e : x = y
    · subst e
      refine List.Sublist.cons_cons x (sub_of_up a2 b2 fun z hz => ?_)
      rcases List.mem_cons.mp (h z (List.mem_cons_of_mem _ hz)) with e | e
      · have := a1 z hz
        omega
      · exact e
    · have hx : x ∈ r := by
        rcases List.mem_cons.mp (h x List.mem_cons_self) with z | z
        · exact absurd z e
        · exact z
      have hxy := b1 x hx
      refine List.Sublist.cons y (sub_of_up h1 b2 fun z hz => ?_)
      rcases List.mem_cons.mp (h z hz) with e' | e'
      · rcases List.mem_cons.mp hz with e2 | e2
        · exact absurd (e2.symm.trans e') e
        · have := a1 z e2
          omega
      · exact e'
/-- the law's look at a row of calls -/
def passM (W : List (List Int)) (S L : List Int) : Bool := L.all fun one => decide (one ∈ S) && !lowF W one (goM W S L)
theorem tell_iff {W : List (List Int)} {S T L : List Int} (hS : Asc W.length S) : L ∈ tellM W S T ↔ L ∈ choicesM (upto W.length) ∧ passM W S L = true ∧ goM W S L = T := by
  unfold tellM sortR
  rw [List.mem_mergeSort, List.mem_filter, mem_choices, mem_choices]
  unfold leadsM passM
  rw [decide_eq_true_eq, List.all_eq_true]
  have am : Asc W.length (mayM W S T) := asc_filter _ hS
  constructor
  · rintro ⟨h1, h2⟩
    have aL := asc_sub am h1
    refine ⟨sub_of_up aL.up (upto_asc _).up fun z hz => mem_upto.mpr (aL.lt z hz), fun p hp => ?_, h2⟩
    have hm := mem_may.mp (h1.subset hp)
    rw [h2, Bool.and_eq_true, decide_eq_true_eq, Bool.not_eq_true', ← Bool.not_eq_true, lowF_iff]
    exact hm
  · rintro ⟨h1, h2, h3⟩
    have aL := asc_sub (upto_asc _) h1
    refine ⟨sub_of_up aL.up am.up fun z hz => mem_may.mpr ?_, h3⟩
    have h := h2 z hz
    rw [h3, Bool.and_eq_true, decide_eq_true_eq, Bool.not_eq_true', ← Bool.not_eq_true, lowF_iff] at h
    exact h
/-! ### the least couple -/
theorem ltP_iff {p q : Int × List Int} : ltP p q = true ↔ p.1 < q.1 ∨ (p.1 = q.1 ∧ p.2 < q.2) := by
  unfold ltP
  rw [Bool.or_eq_true, Bool.and_eq_true, decide_eq_true_eq, decide_eq_true_eq, decide_eq_true_eq]
theorem ltP_asymm {p q : Int × List Int} (h : ltP p q = true) : ltP q p = false := by
  rw [← Bool.not_eq_true, ltP_iff]
  rcases ltP_iff.mp h with h | ⟨h1, h2⟩
  · rintro (z | ⟨z, _⟩) <;> omega
  · rintro (z | ⟨_, z⟩)
    · omega
    · exact List.lt_irrefl _ (List.lt_trans h2 z)
theorem ltP_negtr {y m p : Int × List Int} (h1 : ltP y m = true) (h2 : ltP p m = false) : ltP y p = true := by
  rw [← Bool.not_eq_true, ltP_iff] at h2
  rw [ltP_iff] at h1 ⊢
  rcases h1 with h1 | ⟨h1, h3⟩
  · by_cases a : m.1 ≤ p.1
    · exact .inl (by omega)
    · exact absurd (.inl (by omega)) h2
  · by_cases a : m.1 < p.1
    · exact .inl (by omega)
    · by_cases b : m.1 = p.1
      · refine .inr ⟨by omega, ?_⟩
        by_cases c : y.2 < p.2
        · exact c
        · have hp : p.2 ≤ y.2 := c
          have hm : m.2 ≤ p.2 := fun z => h2 (.inr ⟨b.symm, z⟩)
          exact absurd h3 (List.le_trans hm hp)
      · exact absurd (.inl (by omega)) h2
theorem ltP_same {p q : Int × List Int} (h1 : ltP p q = false) (h2 : ltP q p = false) : p = q := by
  rw [← Bool.not_eq_true, ltP_iff] at h1 h2
  have e1 : p.1 = q.1 := by
    rcases Int.lt_trichotomy p.1 q.1 with h | h | h
    · exact absurd (.inl h) h1
    · exact h
    · exact absurd (.inl h) h2
  have e2 : p.2 = q.2 := List.le_antisymm (fun z => h2 (.inr ⟨e1.symm, z⟩)) (fun z => h1 (.inr ⟨e1, z⟩))
  exact Prod.ext e1 e2
def Bst (R : List (Int × List Int)) (m : Int × List Int) : Prop := m ∈ R ∧ ∀ y ∈ R, ltP y m = false
theorem ltP_self (p : Int × List Int) : ltP p p = false := by
  rw [← Bool.not_eq_true]
  intro h
  have := ltP_asymm h
  rw [h] at this
  cases this
theorem minP_bst : ∀ (R : List (Int × List Int)) (p : Int × List Int), Bst (p :: R) (minP p R)
  | [], p => ⟨List.mem_cons_self, fun y hy => by rw [List.mem_singleton.mp hy]; exact ltP_self p⟩
  | y :: R, p => by
    show Bst (p :: y :: R) (minP (if ltP y p then y else p) R)
    by_cases h : ltP y p = true
    · rw [if_pos h]
      obtain ⟨h1, h2⟩ := minP_bst R y
      refine ⟨List.mem_cons_of_mem _ h1, fun z hz => ?_⟩
      rcases List.mem_cons.mp hz with rfl | hz
      · have hy := h2 y List.mem_cons_self
        cases q : ltP z (minP y R) with
        | false => rfl
        | true =>
          have := ltP_negtr q hy
          rw [ltP_asymm h] at this
          cases this
      · exact h2 z hz
    · rw [if_neg h]
      obtain ⟨h1, h2⟩ := minP_bst R p
      refine ⟨?_, fun z hz => ?_⟩
      · rcases List.mem_cons.mp h1 with h1 | h1
        · rw [h1]; exact List.mem_cons_self
        · exact List.mem_cons_of_mem _ (List.mem_cons_of_mem _ h1)
      · rcases List.mem_cons.mp hz with rfl | hz
        · exact h2 _ List.mem_cons_self
        · rcases List.mem_cons.mp hz with rfl | hz
          · have hp := h2 p List.mem_cons_self
            cases q : ltP z (minP p R) with
            | false => rfl
            | true => exact absurd (ltP_negtr q hp) h
          · exact h2 z (List.mem_cons_of_mem _ hz)
theorem minL_bst {R : List (Int × List Int)} (h : R ≠ []) : Bst R (minL R) := by
  cases R with
  | nil => exact absurd rfl h
  | cons p R => exact minP_bst R p
theorem bst_uniq {R R' : List (Int × List Int)} {m m' : Int × List Int} (h : Bst R m) (h' : Bst R' m') (e : ∀ y, y ∈ R ↔ y ∈ R') : m = m' := ltP_same (h'.2 m ((e m).mp h.1)) (h.2 m' ((e m').mpr h'.1))
/-- one more couple -/
theorem bst_snoc {R : List (Int × List Int)} {m p : Int × List Int} (h : Bst R m) : Bst (R ++ [p]) (if ltP m p then m else p) := by
  obtain ⟨h1, h2⟩ := h
  by_cases hl : ltP m p = true
  · rw [if_pos hl]
    refine ⟨List.mem_append_left _ h1, fun y hy => ?_⟩
    rcases List.mem_append.mp hy with hy | hy
    · exact h2 y hy
    · rw [List.mem_singleton.mp hy]; exact ltP_asymm hl
  · rw [if_neg hl]
    refine ⟨List.mem_append_right _ (List.mem_singleton.mpr rfl), fun y hy => ?_⟩
    rcases List.mem_append.mp hy with hy | hy
    · cases q : ltP y p with
      | false => rfl
      | true => exact absurd (ltP_negtr (y := m) (m := p) (p := y) (by
          cases q2 : ltP m p with
          | true => rfl
          | false =>
            have := ltP_negtr q q2
            rw [h2 y hy] at this
            cases this) (by
          cases q2 : ltP m p with
          | true => exact absurd q2 hl
          | false =>
            have := ltP_negtr q q2
            rw [h2 y hy] at this
            cases this)) (by
          intro z
          have := ltP_negtr q (by simpa using hl)
          rw [h2 y hy] at this
          cases this)
    · rw [List.mem_singleton.mp hy]; exact ltP_self p
theorem bst_one (p : Int × List Int) : Bst [p] p := ⟨List.mem_singleton.mpr rfl, fun y hy => by rw [List.mem_singleton.mp hy]; exact ltP_self p⟩
/-- the couples of the law's dict at T -/
def candM (W : List (List Int)) (S ws : List Int) (Ls : List (List Int)) (T : List Int) : List (Int × List Int) := (Ls.filter fun L => passM W S L && decide (goM W S L = T)).map fun L => (sumW ws L, L)
theorem mem_cand {W : List (List Int)} {S ws T : List Int} (hS : Asc W.length S) (y : Int × List Int) : y ∈ candM W S ws (choicesM (upto W.length)) T ↔ y ∈ cheapTM W S T ws := by
  unfold candM cheapTM
  rw [List.mem_map, List.mem_map]
  constructor
  · rintro ⟨L, hL, rfl⟩
    rw [List.mem_filter, Bool.and_eq_true, decide_eq_true_eq] at hL
    exact ⟨L, (tell_iff hS).mpr ⟨hL.1, hL.2.1, hL.2.2⟩, rfl⟩
  · rintro ⟨L, hL, rfl⟩
    have h := (tell_iff hS).mp hL
    exact ⟨L, by rw [List.mem_filter, Bool.and_eq_true, decide_eq_true_eq]; exact ⟨h.1, h.2.1, h.2.2⟩, rfl⟩
theorem cand_best {W : List (List Int)} {S ws T : List Int} {m : Int × List Int} (hS : Asc W.length S) (h : Bst (candM W S ws (choicesM (upto W.length)) T) m) : m = minL (cheapTM W S T ws) := by
  refine bst_uniq h (minL_bst ?_) (mem_cand hS)
  exact List.ne_nil_of_mem ((mem_cand hS m).mp h.1)
/-- the least sum -/
theorem cost_eq {W : List (List Int)} {S ws e : List Int} (h : tellM W S e ≠ []) : (minL (cheapTM W S e ws)).1 = costM W S ws e := by
  have hb := minL_bst (R := cheapTM W S e ws) (by simpa [cheapTM] using h)
  unfold costM
  symm
  obtain ⟨h1, h2⟩ := hb
  obtain ⟨L, hL, e1⟩ := List.mem_map.mp h1
  refine minI_spec (List.mem_map.mpr ⟨L, hL, by rw [← e1]⟩) fun y hy => ?_
  obtain ⟨L', hL', rfl⟩ := List.mem_map.mp hy
  have := h2 _ (List.mem_map.mpr ⟨L', hL', rfl⟩)
  rw [← Bool.not_eq_true, ltP_iff] at this
  by_cases a : (minL (cheapTM W S e ws)).1 ≤ sumW ws L'
  · exact a
  · exact absurd (.inl (by show sumW ws L' < _; omega)) this
/-! ### the richest, the poorest -/
theorem max_some : ∀ {l : List Int}, l ≠ [] → ∃ m ∈ l, ∀ y ∈ l, y ≤ m
  | [], h => absurd rfl h
  | [x], _ => ⟨x, List.mem_cons_self, fun y hy => by rw [List.mem_singleton.mp hy]; omega⟩
  | x :: z :: l, _ => by
    obtain ⟨m, h1, h2⟩ := max_some (l := z :: l) (by simp)
    by_cases hx : m ≤ x
    · refine ⟨x, List.mem_cons_self, fun y hy => ?_⟩
      rcases List.mem_cons.mp hy with rfl | hy
      · omega
      · have := h2 y hy; omega
    · refine ⟨m, List.mem_cons_of_mem _ h1, fun y hy => ?_⟩
      rcases List.mem_cons.mp hy with rfl | hy
      · omega
      · exact h2 y hy
theorem min_some {l : List Int} (h : l ≠ []) : ∃ m ∈ l, ∀ y ∈ l, m ≤ y := by
  obtain ⟨m, h1, h2⟩ := max_some (l := l.map fun x => -x) (by simpa using h)
  obtain ⟨x, hx, rfl⟩ := List.mem_map.mp h1
  exact ⟨x, hx, fun y hy => by have := h2 (-y) (List.mem_map.mpr ⟨y, hy, rfl⟩); omega⟩
theorem maxI_max {l : List Int} (h : l ≠ []) : maxI l ∈ l ∧ ∀ y ∈ l, y ≤ maxI l := by
  obtain ⟨m, h1, h2⟩ := max_some h
  rw [maxI_spec h1 h2]
  exact ⟨h1, h2⟩
theorem minI_min {l : List Int} (h : l ≠ []) : minI l ∈ l ∧ ∀ y ∈ l, minI l ≤ y := by
  obtain ⟨m, h1, h2⟩ := min_some h
  rw [minI_spec h1 h2]
  exact ⟨h1, h2⟩
/-- the first of the least by f -/
theorem first_best {E : List (List Int)} {f : List Int → Int} {i : Nat} {e : List Int} (hlt : E.Pairwise (· < ·)) (he : E[i]? = some e) (hmin : ∀ y ∈ E, f e ≤ f y) (hfirst : ∀ j y, j < i → E[j]? = some y → f y ≠ f e) : minL (E.map fun e => (f e, e)) = (f e, e) := by
  have mem : e ∈ E := List.mem_of_getElem? he
  refine bst_uniq (minL_bst (by simpa using List.ne_nil_of_mem mem)) (R' := E.map fun e => (f e, e)) ⟨List.mem_map.mpr ⟨e, mem, rfl⟩, fun y hy => ?_⟩ fun _ => Iff.rfl
  obtain ⟨z, hz, rfl⟩ := List.mem_map.mp hy
  rw [← Bool.not_eq_true, ltP_iff]
  have hm := hmin z hz
  rintro (h | ⟨h1, h2⟩)
  · have : f z < f e := h
    omega
  · obtain ⟨j, hj⟩ := List.mem_iff_getElem?.mp hz
    by_cases a : j < i
    · exact hfirst j z a hj h1
    · have hi := (List.getElem?_eq_some_iff.mp he)
      have hj' := (List.getElem?_eq_some_iff.mp hj)
      by_cases b : j = i
      · subst b
        rw [he] at hj
        rw [Option.some.inj hj] at h2
        exact List.lt_irrefl _ h2
      · have := List.pairwise_iff_getElem.mp hlt i j hi.1 hj'.1 (by omega)
        rw [hi.2, hj'.2] at this
        exact List.lt_irrefl _ (List.lt_trans this h2)
/-- by places -/
theorem by_place {β : Type} (l : List (List Int)) (f : List Int → Bool) (g : List Int → β) : ((upto l.length).filter fun i => f (l.getD i.toNat [])).map (fun i => g (l.getD i.toNat [])) = (l.filter f).map g := by
  have e : (upto l.length).map (fun i => l.getD i.toNat []) = l := by
    apply List.ext_getElem?
    intro j
    rw [List.getElem?_map]
    by_cases hj : j < l.length
    · rw [upto_get hj]
      show some (l.getD ((j : Int)).toNat []) = _
      rw [List.getD_eq_getElem?_getD, List.getElem?_eq_getElem (by simpa using hj), List.getElem?_eq_getElem hj]
      simp
    · rw [List.getElem?_eq_none (by rw [upto_len]; omega), List.getElem?_eq_none (by omega)]
      rfl
  have h : (l.filter f).map g = (((upto l.length).map (fun i => l.getD i.toNat [])).filter f).map g := by rw [e]
  rw [h, List.filter_map, List.map_map]
  rfl
end TJ
set_option Elab.async false
set_option linter.all false
set_option maxRecDepth 100000
set_option maxHeartbeats 4000000
namespace TJ
open PySem PySem.Spec PyProof.Rows L2
open Evl (Ex fresh_back)
section
variable {P : Program} {w : World} {K : PySem.W.Frag} {mg : Str → Option Value} {base : Heap}
/-! ### _law_ends -/
abbrev sLEnds : Stmt := topS 54
theorem scLEnds : FnScope ["_law_web_here", "_law_begin", "_law_here"] ["_law_web_here", "_law_begin"] (defScope sLEnds) := ⟨rfl, rfl, rfl, by decide +kernel, rfl, by decide +kernel, by decide +kernel⟩
theorem ok_lends (B : Bt mg) (F : Df K mg "_law_ends" sLEnds ["_law_web_here", "_law_begin"]) (O1 : OkC P w K mg base CX0 "_law_search" 3 ["_law_web_here", "_law_begin"] spFound) (O2 : OkC P w K mg base CX0 "_law_movers" 2 ["_law_web_here", "_law_here"] (spD RMovers)) :
    OkC P w K mg base CX0 "_law_ends" 4 ["_law_web_here", "_law_begin"] (spD REnds) := by
  refine ok_def F scLEnds (fun ds d h => by obtain ⟨W, S, _, _, rfl, _⟩ := h; rfl) (fun f cdv A outer s H E vs ds d Q hr hv hR q => ?_)
  obtain ⟨W, S, hW, hS, rfl, rfl⟩ := hR
  obtain ⟨v1, v2, rfl, t1, t2⟩ := tpA2 hv
  have hl := found_len hS hW
  rw [ends_eq hW hS] at q
  refine js_one (j_ret (d := dR (lendsM W S)) (jd_srtR (R := (foundM W S).filter fun h => decide (moversM W h = [])) B.sorted (jd_lcL (i := 2) (l := foundM W S) (enc := dI) (f := fun h => decide (moversM W h = [])) (g := dI) scLEnds.nd (jd_listK rfl B.list (jk_call O1 hr hW hS (ja_cons (jd_var 0 t1) (ja_cons (jd_var 1 t2) ja_nil))))
    ⟨fun _ => flt_I _, by omega, fun s0 H0 C cl fp a ha v H' e' hv => ?_, fun s0 H0 C cl fp a ha hf v H' e' hv => jd_var 2 hv⟩) (by have := List.length_filter_le (fun h => decide (moversM W h = [])) (foundM W S); omega) (srt_found S _) hr.units) q)
  have ae := asc_sub hS ((found_good W S).2 a ha)
  exact pts_one (jt_is (jt_cmp (op_eqD hr.units) (k_eqD (shp_L _) (shp_L [])) (jd_call O2 (hr.mono (by decide)) (ja_cons (jd_var 0 (t1.ex e')) (ja_cons (jd_var 2 hv) ja_nil)) ⟨W, a, hW, ae, rfl, rfl⟩) (jd_lst ja_nil)) (by rw [eqv_L]))
end
end TJ
set_option Elab.async false
set_option linter.all false
set_option maxRecDepth 100000
set_option maxHeartbeats 4000000
namespace TJ
open PySem PySem.Spec PyProof.Rows L2 LamX
open Evl (Ex fresh_back)
/-! ### _law_told: its work raises NotMade, or gives -/
structure NM2 (K : PySem.W.Frag) (mg : Str → Option Value) (CN CS : Addr) : Prop where
  n : NM K mg CN
  g : mg "SitError" = some (.ref CS)
  exm : PySem.W.exmOne K (.ref CN) (.ref CS) = some true
  ec : ExcC K CN
def TTo (CN : Addr) : (XK → Hp → VK → Prop) → Hp → VK → Prop := fun tl H Q => tl (fun cls d H' => cls = .ref CN ∧ d = none ∧ Q .non H') H Q
abbrev sTold : Stmt := topS 55
theorem scTold : FnScope ["_law_work", "e"] ["_law_work"] (defScope sTold) := ⟨rfl, rfl, rfl, by decide +kernel, rfl, by decide +kernel, by decide +kernel⟩
theorem kitOne_self (K : PySem.W.Frag) (v : Value) : PySem.W.kitOne K v v = some true := by
  unfold PySem.W.kitOne
  rw [if_pos (by simp)]
theorem PSs.cql {X : Cx} {st : List Stmt} {t t' : TS} (h : PSs X st t) (k : ∀ D σ H, σ.length = X.N.length → t' D σ H → t D σ H) : PSs X st t' := ⟨fun pins s σ H D I q => h.run pins s σ H D I (k D σ H I.len q)⟩
theorem told_gives2 {X : Cx} {q : Str} {g CN CS : Addr} {cdg : Value} (B : Bt X.mg) (N : NM2 X.K X.mg CN CS) : GivesTo X ["_law_work", "e"] "_law_told" (defScope sTold) g cdg (defBody sTold) "_law_work" q (TTo CN) := by
  intro f c' s H Q tl act hc h
  refine ⟨_, pss_one (ps_try_as (X := (cxOf C8.CX0 X.prog X.w X.K X.mg X.base ["_law_work", "e"] "_law_told" (defScope sTold) g cdg X.A X.stack s H C8.E0).nox) (c := .ref CS) (i := 1) (Wout := fun _ _ _ _ => False)
      (tb := fun W D σ H => ∃ Ech : XK, (∀ cls d σ' H', Ech cls d H' → W cls d σ' H') ∧ σ[0]? = some (some (.ref f)) ∧ H c' = some (CodeO c' q) ∧ tl Ech H D.rt)
      (ts := fun a cls d D σ H => ∃ (_ : cls = .ref CN ∧ d = none), (∃ σ0, σ = List.set σ0 1 (some (.ref a))) ∧ D.rt .non H)
      rfl rfl scTold.nd rfl rfl ⟨rfl, by decide, .inl N.g⟩ LamX.takes0 (fun W pn xe tk _ => ?_) (fun a oe cls d pn hz hf => ?_)), ?_⟩
  · refine ⟨fun pins s' σ H' D I h' => ?_⟩
    obtain ⟨Ech, hW, h1, h2, h3⟩ := h'
    exact (pss_one (ps_ret (act W pn xe Ech _ _ tk hW))).run pins s' σ H' D I ⟨h1, h2, h3⟩
  · refine PSs.cql (PSs.fam (ι := PLift (cls = .ref CN ∧ d = none)) (t := fun z => tRet (tIf (tB (tCB (rIsE X.K CN a) (tCons (tVar 1) (tCons (tC (.ref CN)) tNil)))) (tC .non) (tC (.str "other")))) fun z => ?_) fun D σ H' hl q => ?_
    · obtain ⟨rfl, rfl⟩ := z.down
      exact pss_one (ps_ret (pe_ifExp (pt_val (pe_callB (call_isE N.ec hz hf) rfl B.isi bt_isi (pa_cons (pe_var (i := 1) rfl (by exact .inl rfl)) (pa_cons (pe_glob (v := .ref CN) rfl N.n.g rfl) pa_nil)))) pe_non pe_str))
    · obtain ⟨z, ⟨σ0, rfl⟩, h2⟩ := q
      have hlen : (List.set σ0 1 (some (V.ref a))).length = 2 := hl
      have h1 : (List.set σ0 1 (some (V.ref a)))[1]? = some (some (.ref a)) := by
        rw [List.length_set] at hlen
        rw [List.getElem?_set, if_pos rfl, if_pos (by omega)]
      exact ⟨⟨z⟩, _, h1, ⟨_, .ref CN, true, rfl, fun u hu => hu, kitOne_self _ _, _, rfl, iteT h2⟩⟩
  · refine ⟨fun cls d H' => cls = .ref CN ∧ d = none ∧ Q .non H', fun cls d σ' H' hq => ?_, rfl, hc, h⟩
    obtain ⟨rfl, rfl, hq⟩ := hq
    exact ⟨true, N.exm, fun _ a ha => ⟨⟨rfl, rfl⟩, ⟨σ', rfl⟩, hq⟩, fun z => nomatch z⟩
end TJ
set_option Elab.async false
set_option linter.all false
set_option maxRecDepth 100000
set_option maxHeartbeats 4000000
namespace TJ
open PySem PySem.Spec PyProof.Rows L2
open Evl (Ex fresh_back)
section
variable {H H' : Hp}
/-- a dict is written: all else stays -/
theorem Tp.updT {d : Addr} {kvs : List (List L2.Key × V)} {o : HO} {v : V} {dv : PyData} (hd : H d = some (.dT kvs)) (h : Tp H v dv) : Tp (L2.upd H d o) v dv :=
  h.mp (fun a xs q => by rw [upd_ne (fun z => by rw [z, hd] at q; cases q)]; exact q) (fun a xs q => by rw [upd_ne (fun z => by rw [z, hd] at q; cases q)]; exact q)
theorem Row.updT {K : PySem.W.Frag} {ρ : Rw} {R d : Addr} {kvs : List (List L2.Key × V)} {o : HO} (hd : H d = some (.dT kvs)) (r : Row K ρ R H) : Row K ρ R (L2.upd H d o) := by
  obtain ⟨a, b, c, h1, h2, h3, h4⟩ := r
  refine ⟨a, b, c, by rw [upd_ne (fun z => by rw [z, hd] at h1; cases h1)]; exact h1, ?_, h3, h4⟩
  rcases h2 with ⟨h | ⟨o', h⟩, ne⟩ | h
  · exact .inl ⟨.inl (by rw [upd_ne (fun z => by rw [z, hd] at h; cases h)]; exact h), ne⟩
  · exact .inl ⟨.inr ⟨o', by rw [upd_ne (fun z => by rw [z, hd] at h; cases h)]; exact h⟩, ne⟩
  · exact .inr h
end
/-- what the law knows of the heap -/
structure LSt (K : PySem.W.Frag) (ρ : Rw) (R P : Addr) (W : List (List Int)) (S ws : List Int) (df : Addr) (vW vB vP vE vSm : V) (H : Hp) : Prop where
  row : Row K ρ R H
  tab : H P = some (.tbl #[])
  tW : Tp H vW (dW W)
  tB : Tp H vB (dI S)
  tP : Tp H vP (dI ws)
  tE : Tp H vE (dR (endsM W S))
  tS : Tp H vSm (dL ((endsM W S).map (sumW ws)))
  fnd : ∃ kvs, H df = some (.dT kvs) ∧ Keys kvs (foundM W S)
section
variable {K : PySem.W.Frag} {ρ : Rw} {R P : Addr} {W : List (List Int)} {S ws : List Int} {df : Addr} {vW vB vP vE vSm : V} {H H' : Hp}
theorem LSt.ex (s : LSt K ρ R P W S ws df vW vB vP vE vSm H) (e : Ex H H') : LSt K ρ R P W S ws df vW vB vP vE vSm H' := ⟨s.row.ex e, e _ _ s.tab, s.tW.ex e, s.tB.ex e, s.tP.ex e, s.tE.ex e, s.tS.ex e, let ⟨k, a, b⟩ := s.fnd; ⟨k, e _ _ a, b⟩⟩
theorem tab_kr (r : Row K ρ R H) (t : H P = some (.tbl #[])) (k : KR R H H') : H' P = some (.tbl #[]) := by
  obtain ⟨a, b, c, h1, _⟩ := r
  exact k.1 _ _ (fun z => by rw [z, h1] at t; cases t) t
theorem LSt.kr (s : LSt K ρ R P W S ws df vW vB vP vE vSm H) (k : KR R H H') (r : Row K ρ R H') : LSt K ρ R P W S ws df vW vB vP vE vSm H' := ⟨r, tab_kr s.row s.tab k, k.tp s.tW (flt_W W), k.tp s.tB (flt_I S), k.tp s.tP (flt_I ws), k.tR s.row s.tE, k.tL s.row s.tS, let ⟨kv, a, b⟩ := s.fnd; ⟨kv, k.dict s.row a, b⟩⟩
theorem LSt.upd {d : Addr} {kvs : List (List L2.Key × V)} {o : HO} (s : LSt K ρ R P W S ws df vW vB vP vE vSm H) (hd : H d = some (.dT kvs)) (ne : df ≠ d) : LSt K ρ R P W S ws df vW vB vP vE vSm (L2.upd H d o) :=
  ⟨s.row.updT hd, by rw [upd_ne (fun z => by have t := s.tab; rw [z, hd] at t; cases t)]; exact s.tab, s.tW.updT hd, s.tB.updT hd, s.tP.updT hd, s.tE.updT hd, s.tS.updT hd, let ⟨kv, a, b⟩ := s.fnd; ⟨kv, by rw [upd_ne ne]; exact a, b⟩⟩
end
/-- the costs so far: for each set left standing the least couple -/
def Cost (W : List (List Int)) (S ws : List Int) (Ls : List (List Int)) (kvs : List (List L2.Key × V)) (H : Hp) : Prop :=
  ∀ T : List Int, (valV kvs (kI T) = none ∧ candM W S ws Ls T = []) ∨ ∃ v m, valV kvs (kI T) = some v ∧ Tp H v (dP m) ∧ Bst (candM W S ws Ls T) m
section
variable {W : List (List Int)} {S ws : List Int} {Ls : List (List Int)} {kvs : List (List L2.Key × V)} {H H' : Hp}
theorem Cost.ex (c : Cost W S ws Ls kvs H) (e : Ex H H') : Cost W S ws Ls kvs H' := fun T => by
  rcases c T with h | ⟨v, m, h1, h2, h3⟩
  · exact .inl h
  · exact .inr ⟨v, m, h1, h2.ex e, h3⟩
theorem Cost.upd {d : Addr} {kvs' : List (List L2.Key × V)} {o : HO} (c : Cost W S ws Ls kvs H) (hd : H d = some (.dT kvs')) : Cost W S ws Ls kvs (L2.upd H d o) := fun T => by
  rcases c T with h | ⟨v, m, h1, h2, h3⟩
  · exact .inl h
  · exact .inr ⟨v, m, h1, h2.updT hd, h3⟩
theorem cand_snoc {L T : List Int} : candM W S ws (Ls ++ [L]) T = candM W S ws Ls T ++ (if (passM W S L && decide (goM W S L = T)) = true then [(sumW ws L, L)] else []) := by
  unfold candM
  rw [List.filter_append, List.map_append]
  congr 1
  rw [List.filter_cons]
  split <;> rfl
theorem Cost.skip {L : List Int} (c : Cost W S ws Ls kvs H) (h : passM W S L = false) : Cost W S ws (Ls ++ [L]) kvs H := fun T => by
  rw [cand_snoc, h]
  simp only [Bool.false_and, Bool.false_eq_true, if_false, List.append_nil]
  exact c T
/-- the new couple at T -/
theorem Cost.put {L : List Int} {v : V} (c : Cost W S ws Ls kvs H) (h : passM W S L = true) (hv : ∀ m, (candM W S ws Ls (goM W S L) = [] → m = (sumW ws L, L)) → (∀ m0, Bst (candM W S ws Ls (goM W S L)) m0 → m = if ltP m0 (sumW ws L, L) then m0 else (sumW ws L, L)) → Tp H v (dP m)) : Cost W S ws (Ls ++ [L]) (putK kvs (kI (goM W S L)) v) H := fun T => by
  rw [cand_snoc, h, valV_put]
  by_cases e : goM W S L = T
  · subst e
    rw [if_pos rfl, if_pos (by simp)]
    refine .inr ?_
    rcases c (goM W S L) with ⟨_, h2⟩ | ⟨v0, m0, h1, h2, h3⟩
    · refine ⟨v, (sumW ws L, L), rfl, hv _ (fun _ => rfl) (fun m0 hm => by rw [h2] at hm; exact absurd hm.1 (by simp)), ?_⟩
      rw [h2]
      exact bst_one _
    · refine ⟨v, _, rfl, hv _ (fun z => by rw [z] at h3; exact absurd h3.1 (by simp)) (fun m1 hm => by rw [bst_uniq hm h3 fun _ => Iff.rfl]), bst_snoc h3⟩
  · have e2 : ¬ kI T = kI (goM W S L) := fun z => e (kI_inj z).symm
    rw [if_neg e2, if_neg (by simp [e]), List.append_nil]
    exact c T
end
section
variable {X : Cx} {e a b c : Expr} {es : List Expr} {σ : L2.St} {H : Hp} {pos p p2 : Pos} {x : Str} {D : Ends}
/-! ### rules -/
theorem jq_web {k : Nat} {ps : List Str} {ρ : Rw} {R : Addr} (O : OkC X.prog X.w X.K X.mg X.base CX0 x k ps (spWeb X.K ρ)) (hr : Room k X.A) (ha : JV X a σ H (.ref R)) (hb : JD X b σ H (.int 5)) (r : Row X.K ρ R H)
    (hg : Gl X x := by rfl) (hdb : (x == ("__debug__" : Str)) = false := by decide) (he : starEach [a, b] X.env = (false, eval a X.env) :: starEach [b] X.env := by rfl) (he2 : starEach [b] X.env = (false, eval b X.env) :: starEach [] X.env := by rfl) (hpl : (backTo pos (starEach [b] X.env)).any (·.1) = false := by rfl) :
    JQ R X (.Call (.Name x p) [a, b] [] pos) σ H fun v H' => Row X.K ρ R H' ∧ ∃ W, Wb W ∧ Tp H' v (dW W) := by
  obtain ⟨f, fd, hm, hk, hb', F⟩ := O.ex
  refine PE.cq (pe_call F hr hg hm hk hb' .nil pass0 (pa_cons ha (pa_cons hb pa_nil he2) he) hdb he hpl) fun σ' H1 Q q => ?_
  obtain ⟨rfl, e1, q⟩ := q
  refine ⟨rfl, e1, fun v H2 e2 hv => ⟨rfl, e1.trans e2, fun u H3 e3 hu => ?_⟩⟩
  subst hv
  rw [tp_int hu]
  exact ⟨R, rfl, r.ex ((e1.trans e2).trans e3), fun W v H4 hW k4 r4 tv => q _ _ ((KR.of (e2.trans e3)).trans k4) ⟨r4, W, hW, tv⟩⟩
theorem jq_up {k : Nat} {ps : List Str} {ρ : Rw} {R : Addr} {W : List (List Int)} (O : OkC X.prog X.w X.K X.mg X.base CX0 x k ps (spUp X.K ρ)) (hr : Room k X.A) (hW : Wb W) (ha : JV X a σ H (.ref R)) (hb : JD X b σ H (dW W)) (r : Row X.K ρ R H)
    (hg : Gl X x := by rfl) (hdb : (x == ("__debug__" : Str)) = false := by decide) (he : starEach [a, b] X.env = (false, eval a X.env) :: starEach [b] X.env := by rfl) (he2 : starEach [b] X.env = (false, eval b X.env) :: starEach [] X.env := by rfl) (hpl : (backTo pos (starEach [b] X.env)).any (·.1) = false := by rfl) :
    JQ R X (.Call (.Name x p) [a, b] [] pos) σ H fun v H' => Row X.K ρ R H' ∧ ∃ S, Asc W.length S ∧ Tp H' v (dI S) := by
  obtain ⟨f, fd, hm, hk, hb', F⟩ := O.ex
  refine PE.cq (pe_call F hr hg hm hk hb' .nil pass0 (pa_cons ha (pa_cons hb pa_nil he2) he) hdb he hpl) fun σ' H1 Q q => ?_
  obtain ⟨rfl, e1, q⟩ := q
  refine ⟨rfl, e1, fun v H2 e2 hv => ⟨rfl, e1.trans e2, fun u H3 e3 hu => ?_⟩⟩
  subst hv
  exact ⟨R, W, u, rfl, hW, hu, r.ex ((e1.trans e2).trans e3), fun S v H4 hS k4 r4 tv => q _ _ ((KR.of (e2.trans e3)).trans k4) ⟨r4, S, hS, tv⟩⟩
/-- a list of rows, drawn -/
abbrev φRows (K : PySem.W.Frag) (ρ : Rw) (R : Addr) (Lp : List Int → Prop) (v : V) (H' : Hp) : Prop := Row K ρ R H' ∧ ∃ L : List (List Int), L ≠ [] ∧ L.length ≤ 1000 ∧ (∀ l ∈ L, Lp l) ∧ Tp H' v (dR L)
theorem jq_pick {k : Nat} {ps : List Str} {ρ : Rw} {R : Addr} {Lp : List Int → Prop} (O : OkC X.prog X.w X.K X.mg X.base CX0 x k ps (spPick X.K ρ)) (hr : Room k X.A) (ha : JV X a σ H (.ref R)) (hb : JQ R X b σ H (φRows X.K ρ R Lp))
    (hg : Gl X x := by rfl) (hdb : (x == ("__debug__" : Str)) = false := by decide) (he : starEach [a, b] X.env = (false, eval a X.env) :: starEach [b] X.env := by rfl) (he2 : starEach [b] X.env = (false, eval b X.env) :: starEach [] X.env := by rfl) (hpl : (backTo pos (starEach [b] X.env)).any (·.1) = false := by rfl) :
    JQ R X (.Call (.Name x p) [a, b] [] pos) σ H fun v H' => Row X.K ρ R H' ∧ ∃ l, Lp l ∧ Tp H' v (dI l) := by
  obtain ⟨f, fd, hm, hk, hb', F⟩ := O.ex
  refine PE.cq (pe_call F hr hg hm hk hb' .nil pass0 (pa_cons ha (pa_cons hb pa_nil he2) he) hdb he hpl) fun σ' H1 Q q => ?_
  obtain ⟨rfl, e1, q⟩ := q
  refine ⟨rfl, e1, fun v H2 e2 hv => ⟨rfl, e1.trans e2, fun u H3 k3 hu => ?_⟩⟩
  subst hv
  obtain ⟨r3, L, hne, hl, hL, tu⟩ := hu
  exact ⟨R, L, u, rfl, hne, hl, tu, r3, fun l v H4 hm k4 r4 tv => q _ _ (((KR.of e2).trans k3).trans k4) ⟨r4, l, hL l hm, tv⟩⟩
/-- [a, b], both drawn -/
theorem jq_lst2 {ρ : Rw} {R : Addr} {Lp : List Int → Prop} (ha : JQ R X a σ H fun v H' => Row X.K ρ R H' ∧ ∃ l, Lp l ∧ Tp H' v (dI l)) (hb : ∀ H', KR R H H' → Row X.K ρ R H' → JQ R X b σ H' fun v H' => Row X.K ρ R H' ∧ ∃ l, Lp l ∧ Tp H' v (dI l))
    (he : starEach [a, b] X.env = (false, eval a X.env) :: starEach [b] X.env := by rfl) (he2 : starEach [b] X.env = (false, eval b X.env) :: starEach [] X.env := by rfl) : JQ R X (.List [a, b] pos) σ H (φRows X.K ρ R Lp) := by
  have hb' : PE X b (fun σ2 H2 Q => ∃ z : { H' // KR R H H' ∧ Row X.K ρ R H' }, tQ R σ z.1 (fun v H' => Row X.K ρ R H' ∧ ∃ l, Lp l ∧ Tp H' v (dI l)) σ2 H2 Q) := PE.fam fun z => hb z.1 z.2.1 z.2.2
  refine PE.cq (pe_lst (pa_cons ha (pa_cons hb' pa_nil he2) he)) fun σ' H1 Q q => ?_
  obtain ⟨rfl, e1, q⟩ := q
  refine ⟨rfl, e1, fun v H2 k2 hv => ⟨⟨H2, (KR.of e1).trans k2, hv.1⟩, rfl, Ex.refl _, fun u H3 k3 hu => ?_⟩⟩
  obtain ⟨r2, l, hl, tv⟩ := hv
  obtain ⟨r3, l', hl', tu⟩ := hu
  refine ⟨by show 2 ≤ sizeLine; decide, fun t ht => q _ _ ((k2.trans k3).trans (KR.of (Ex.nw ht))) ⟨r3.ex (Ex.nw ht), [l, l'], by simp, by simp, fun z hz => ?_, .lst upd_same ((TpA.cons (k3.tp tv (flt_I l)) (TpA.cons tu .nil)).ex (Ex.nw ht))⟩⟩
  rcases List.mem_cons.mp hz with rfl | hz
  · exact hl
  · rw [List.mem_singleton.mp hz]; exact hl'
/-- y1, y2 = a, b, both drawn (the names may be captured) -/
theorem j_pairQ {ρ : Rw} {R : Addr} {φ ψ : V → Hp → Prop} {y1 y2 : Str} {py1 py2 tpos tpos2 : Pos} {kk k2 i1 i2 : Nat} (nd : X.N.Nodup) (ha : JQ R X a σ H fun v H' => Row X.K ρ R H' ∧ φ v H') (hb : ∀ v H', KR R H H' → Row X.K ρ R H' → φ v H' → JQ R X b σ H' fun v H' => Row X.K ρ R H' ∧ ψ v H') (keep : ∀ v H1 H2, φ v H1 → KR R H1 H2 → φ v H2)
    (keep2 : ∀ v H1 H2, ψ v H1 → KR R H1 H2 → ψ v H2) (k : ∀ v u H1, KR R H H1 → Row X.K ρ R H1 → φ v H1 → ψ u H1 → D.nx ((σ.set i1 (some v)).set i2 (some u)) H1)
    (hN1 : X.N[i1]? = some y1 := by rfl) (hl1 : Loc X.env.scope y1 := by first | exact Or.inl rfl | exact Or.inr rfl) (hf1 : X.fn y1 = true ∨ X.env.scope.names.lookup y1 = some .local := by first | exact .inl rfl | exact .inr rfl)
    (hN2 : X.N[i2]? = some y2 := by rfl) (hl2 : Loc X.env.scope y2 := by first | exact Or.inl rfl | exact Or.inr rfl) (hf2 : X.fn y2 = true ∨ X.env.scope.names.lookup y2 = some .local := by first | exact .inl rfl | exact .inr rfl)
    (hc : X.calm = true := by rfl)
    (hsx1 : (assignEach [.Name y1 py1, .Name y2 py2] X.env).map (·.2) = assign (.Name y1 py1) X.env :: (assignEach [.Name y2 py2] X.env).map (·.2) := by rfl) (hsx2 : (assignEach [.Name y2 py2] X.env).map (·.2) = assign (.Name y2 py2) X.env :: (assignEach [] X.env).map (·.2) := by rfl)
    (hnn : (assignEach [.Name y1 py1, .Name y2 py2] X.env).length = 2 := by rfl) (hst : (assignEach [.Name y1 py1, .Name y2 py2] X.env).findIdx? (·.1) = none := by rfl)
    (hs : swapsWithSole [.Tuple [.Name y1 py1, .Name y2 py2] kk tpos] (.Tuple [a, b] k2 tpos2) pos.line X.env = pure false := by rfl) (hw : swappedStores [.Tuple [.Name y1 py1, .Name y2 py2] kk tpos] (.Tuple [a, b] k2 tpos2) X.env = pure none := by rfl)
    (h1 : (assignEach [.Tuple [.Name y1 py1, .Name y2 py2] kk tpos] X.env).map (·.2) = [assign (.Tuple [.Name y1 py1, .Name y2 py2] kk tpos) X.env] := by rfl)
    (he : starEach [a, b] X.env = (false, eval a X.env) :: starEach [b] X.env := by rfl) (he2 : starEach [b] X.env = (false, eval b X.env) :: starEach [] X.env := by rfl) :
    J1 X (.Assign [.Tuple [.Name y1 py1, .Name y2 py2] kk tpos] (.Tuple [a, b] k2 tpos2) pos) σ H D := by
  have hb' : PE X b (fun σ2 H2 Q => ∃ z : { q : V × Hp // KR R H q.2 ∧ Row X.K ρ R q.2 ∧ φ q.1 q.2 }, tQ R σ z.1.2 (fun v H' => Row X.K ρ R H' ∧ ψ v H') σ2 H2 Q) := PE.fam fun z => hb z.1.1 z.1.2 z.2.1 z.2.2.1 z.2.2.2
  refine PS.cq (ps_asg (pe_tup (pa_cons ha (pa_cons hb' pa_nil he2) he)) (pg_tup hc (pgs_cons (pg_name (i := i1) nd hN1 hl1 hf1) (pgs_cons (pg_name (i := i2) nd hN2 hl2 hf2) pgs_nil hsx2) hsx1) hnn hst) hs hw h1) fun D' σ' H' q => ?_
  obtain ⟨rfl, rfl, rfl⟩ := q
  refine ⟨rfl, Ex.refl _, fun v H2 k2 hv => ⟨⟨(v, H2), k2, hv⟩, rfl, Ex.refl _, fun u H3 k3 hu => ⟨by show 2 ≤ sizeLine; decide, fun t ht => ?_⟩⟩⟩
  exact ⟨t, _, rfl, SqT.of upd_same, rfl, v, _, rfl, u, _, rfl, rfl, k v u _ ((k2.trans k3).trans (KR.of (Ex.nw ht))) (hu.1.ex (Ex.nw ht)) (keep v H2 _ hv.2 (k3.trans (KR.of (Ex.nw ht)))) (keep2 u H3 _ hu.2 (KR.of (Ex.nw ht)))⟩
/-- y1, y2 = a, b: a new dict and data -/
theorem j_pairK {L : List (List Int)} {d2 : PyData} {y1 y2 : Str} {py1 py2 tpos tpos2 : Pos} {kk k2 i1 i2 : Nat} (nd : X.N.Nodup) (ha : PE X a (tKs σ H L)) (hb : JD X b σ H d2) (k : ∀ d kvs u H1, H d = none → Ex H H1 → H1 d = some (.dT kvs) → Keys kvs L → Tp H1 u d2 → D.nx ((σ.set i1 (some (.ref d))).set i2 (some u)) H1)
    (hN1 : X.N[i1]? = some y1 := by rfl) (hl1 : Loc X.env.scope y1 := by first | exact Or.inl rfl | exact Or.inr rfl) (hf1 : X.fn y1 = true ∨ X.env.scope.names.lookup y1 = some .local := by first | exact .inl rfl | exact .inr rfl)
    (hN2 : X.N[i2]? = some y2 := by rfl) (hl2 : Loc X.env.scope y2 := by first | exact Or.inl rfl | exact Or.inr rfl) (hf2 : X.fn y2 = true ∨ X.env.scope.names.lookup y2 = some .local := by first | exact .inl rfl | exact .inr rfl)
    (hc : X.calm = true := by rfl)
    (hsx1 : (assignEach [.Name y1 py1, .Name y2 py2] X.env).map (·.2) = assign (.Name y1 py1) X.env :: (assignEach [.Name y2 py2] X.env).map (·.2) := by rfl) (hsx2 : (assignEach [.Name y2 py2] X.env).map (·.2) = assign (.Name y2 py2) X.env :: (assignEach [] X.env).map (·.2) := by rfl)
    (hnn : (assignEach [.Name y1 py1, .Name y2 py2] X.env).length = 2 := by rfl) (hst : (assignEach [.Name y1 py1, .Name y2 py2] X.env).findIdx? (·.1) = none := by rfl)
    (hs : swapsWithSole [.Tuple [.Name y1 py1, .Name y2 py2] kk tpos] (.Tuple [a, b] k2 tpos2) pos.line X.env = pure false := by rfl) (hw : swappedStores [.Tuple [.Name y1 py1, .Name y2 py2] kk tpos] (.Tuple [a, b] k2 tpos2) X.env = pure none := by rfl)
    (h1 : (assignEach [.Tuple [.Name y1 py1, .Name y2 py2] kk tpos] X.env).map (·.2) = [assign (.Tuple [.Name y1 py1, .Name y2 py2] kk tpos) X.env] := by rfl)
    (he : starEach [a, b] X.env = (false, eval a X.env) :: starEach [b] X.env := by rfl) (he2 : starEach [b] X.env = (false, eval b X.env) :: starEach [] X.env := by rfl) :
    J1 X (.Assign [.Tuple [.Name y1 py1, .Name y2 py2] kk tpos] (.Tuple [a, b] k2 tpos2) pos) σ H D := by
  refine PS.cq (ps_asg (pe_tup (pa_cons ha (pa_cons hb pa_nil he2) he)) (pg_tup hc (pgs_cons (pg_name (i := i1) nd hN1 hl1 hf1) (pgs_cons (pg_name (i := i2) nd hN2 hl2 hf2) pgs_nil hsx2) hsx1) hnn hst) hs hw h1) fun D' σ' H' q => ?_
  obtain ⟨rfl, rfl, rfl⟩ := q
  refine ⟨rfl, Ex.refl _, fun d kvs H2 n2 e2 hd hK => ⟨rfl, e2, fun u H3 e3 hu => ⟨by show 2 ≤ sizeLine; decide, fun t ht => ?_⟩⟩⟩
  have et : Ex H3 (upd H3 t (.tup [V.ref d, u])) := Ex.nw ht
  exact ⟨t, _, rfl, SqT.of upd_same, rfl, _, _, rfl, u, _, rfl, rfl, k d kvs u _ n2 ((e2.trans e3).trans et) (et _ _ (e3 _ _ hd)) hK (hu.ex et)⟩
/-- the place of a number in a list -/
theorem first_at {m : Int} : ∀ {l : List Int}, m ∈ l → ∃ j : Nat, l[j]? = some m ∧ ∀ i : Nat, i < j → l[i]? ≠ some m
  | x :: l, h => by
    by_cases e : x = m
    · exact ⟨0, by rw [e]; rfl, fun i hi => absurd hi (Nat.not_lt_zero _)⟩
    · obtain ⟨j, h1, h2⟩ := first_at (l := l) ((List.mem_cons.mp h).resolve_left fun z => e z.symm)
      refine ⟨j + 1, h1, fun i hi => ?_⟩
      cases i with
      | zero => exact fun z => e (Option.some.inj z)
      | succ i => exact h2 i (by omega)
theorem jd_index {l : List Int} {m : Int} {j : Nat} {apos cpos : Pos} (ha : JD X a σ H (dL l)) (hb : JD X b σ H (.int m)) (hj : l[j]? = some m) (hf : ∀ i : Nat, i < j → l[i]? ≠ some m)
    (hbase : attributeBase a "index" X.env (eval a X.env) = eval a X.env := by rfl)
    (hfew : ((backTo cpos (starEach [b] X.env)).all (fun x => !x.1) && (backToKw cpos (keywordEach [] X.env)).all (fun x => x.1.isSome) && decide ([b].length + ([] : List Keyword).length + (if ([] : List Keyword).isEmpty then 0 else 1) < 30)) = true := by rfl)
    (hline : (apos.endLine == cpos.line) = true := by rfl) (hs : starEach [b] X.env = (false, eval b X.env) :: starEach [] X.env := by rfl) (hplain : (backTo cpos (starEach [] X.env)).any (·.1) = false := by rfl) :
    JD X (.Call (.Attribute a "index" apos) [b] [] cpos) σ H (.int (j : Nat)) := PE.cq (pe_bm PySem.F.plainAttrs_list PySem.F.slot_list_index PySem.F.type_list_index mt_index ha (pa_cons hb pa_nil hs) hbase hfew hline hs hplain) fun σ' H1 Q q => by
  obtain ⟨rfl, e1, q⟩ := q
  refine ⟨rfl, e1, fun v H2 e2 hv => ?_⟩
  obtain ⟨t, xs, rfl, q1, q2⟩ := tp_lst hv
  rw [q2.ints] at q1
  refine ⟨.inl ⟨rfl, _, SqL.of q1⟩, rfl, e1.trans e2, fun u H3 e3 hu => ?_⟩
  rw [tp_int hu]
  refine ⟨t, l.map V.int, .int m, j, .int m, rfl, rfl, SqL.of (e3 _ _ q1), rfl, flat_ints l, by rw [List.getElem?_map, hj]; rfl, by simp [eqV], fun i z' hi hz => ?_, q _ _ (e2.trans e3) (.int _)⟩
  rw [List.getElem?_map] at hz
  cases hx : l[i]? with
  | none => rw [hx] at hz; cases hz
  | some x =>
    rw [hx] at hz
    have ez := Option.some.inj hz
    subst ez
    have hne : x ≠ m := fun z => hf i hi (by rw [hx, z])
    simp [eqV, hne]
/-- d.get(k, dflt) -/
theorem jv_dget2 {kvs : List (List L2.Key × V)} {l : List Int} {d : Addr} {v : V} {apos cpos : Pos} (hu : X.A.units + 64 < cLine) (ha : JV X a σ H (.ref d)) (hb : JD X b σ H (dI l)) (hc : JV X c σ H v) (hd : H d = some (.dT kvs))
    (m : M2 X a "get" apos b c cpos := by exact ⟨rfl, rfl, rfl, rfl⟩) : JV X (.Call (.Attribute a "get" apos) [b, c] [] cpos) σ H ((valV kvs (kI l)).getD v) := PE.cq (pe_dget2 (by omega) ha hb hc m) fun σ' H1 Q q => by
  obtain ⟨rfl, e1, q⟩ := q
  refine ⟨rfl, e1, fun u H2 e2 hu2 => ?_⟩
  subst hu2
  have hd2 := (e1.trans e2) _ _ hd
  refine ⟨d, rfl, .inr ⟨kvs, Rd.of hd2⟩, rfl, e1.trans e2, fun y H3 e3 hy => ⟨rfl, (e1.trans e2).trans e3, fun z H4 e4 hz => ?_⟩⟩
  subst hz
  obtain ⟨t, rfl, ht⟩ := tp_key (hy.ex e4)
  exact ⟨_, DGet.t (e4 _ _ (e3 _ _ hd2)) ht, q _ _ ((e2.trans e3).trans e4) rfl⟩
/-- min(p, q), the one or the other -/
theorem jd_min2P {q1 q2 : Int × List Int} (hc : X.calm = true) (hu : X.A.units + 64 < cLine) (hm : X.mg "min" = none) (ha : JD X a σ H (dP q1)) (hb : JD X b σ H (dP q2)) (hg : Gl X "min" := by rfl) (he : starEach [a, b] X.env = (false, eval a X.env) :: starEach [b] X.env := by rfl) (he2 : starEach [b] X.env = (false, eval b X.env) :: starEach [] X.env := by rfl) :
    JD X (.Call (.Name "min" p) [a, b] [] p2) σ H (dP (if ltP q2 q1 then q2 else q1)) := by
  refine jd_callB (cr_min2P hc hu) (ds := [dP q1, dP q2]) (fun vs H1 Q hvs q => ?_) hm bt_min (ja_cons ha (ja_cons hb ja_nil he2) he) hg (he := he) (hpl := by
    rw [he2]; rfl)
  obtain ⟨v, u, rfl, hv, hu⟩ := tpA2 hvs
  refine ⟨v, u, q1, q2, rfl, hv, hu, ?_⟩
  by_cases h : ltP q2 q1 = true
  · rw [if_pos h] at q ⊢
    exact q _ _ (Ex.refl _) hu
  · rw [if_neg h] at q ⊢
    exact q _ _ (Ex.refl _) hv
/-- y = [elt for z in range(n) if ..] -/
theorem j_setLcR {elt : Expr} {ifs : List Expr} {scope : Scope} {y z : Str} {py pz spos p2 p3 : Pos} {i iy n : Nat} {f : Int → Bool} {g : Int → PyData} (nd : X.N.Nodup) (hm : X.mg "range" = none) (ha : JD X a σ H (.int n)) (L : LcOk X elt ifs scope i σ H (upto n) PyData.int f g)
    (k : ∀ v H1, Ex H H1 → Tp H1 v (.list (((upto n).filter f).map g)) → D.nx (σ.set iy (some v)) H1) (hg : Gl X "range" := by rfl) (he : starEach [a] X.env = [(false, eval a X.env)] := by rfl)
    (hNy : X.N[iy]? = some y := by rfl) (hyl : X.env.scope.names.lookup y = some .local := by rfl) (hsw : swapsWith (.ListComp elt [⟨.Name z pz, .Call (.Name "range" p2) [a] [] p3, ifs, 0⟩] scope pos) (some (.Name y py)) spos.line X.env = pure true := by exact sw_true rfl rfl rfl (by decide +kernel))
    (hc : X.calm = true := by rfl) (ok : blkC X.N X.env.scope scope [(z, i)] = true := by kernel_rfl) (hN : X.N[i]? = some z := by rfl) (hz : ∀ C cl, Loc (compEnvC scope cl C X.env).scope z := by first | (intros; exact Or.inl rfl) | (intros; exact Or.inr rfl)) (hzf : ∀ s0 H0 C cl fp, (X.blk s0 H0 scope (compEnvC scope cl C X.env) fp).fn z = true ∨ (compEnvC scope cl C X.env).scope.names.lookup z = some .local := by first | (intros; exact Or.inr rfl) | (intros; exact Or.inl rfl)) (hs : ∀ x, foldedSetIterable (.Call (.Name "range" p2) [a] [] p3) X.env x = pure x := by intro _; rfl) :
    J1 X (.Assign [.Name y py] (.ListComp elt [⟨.Name z pz, .Call (.Name "range" p2) [a] [] p3, ifs, 0⟩] scope pos) spos) σ H D :=
  PS.cq (ps_setLc (own := [(z, i)]) (g := gName i) hc nd hNy hyl hsw (pi_range1 hg hm (ja_cons ha ja_nil he) he) (blkOk_by ok) (fun s0 H0 C cl fp => pg_name nd hN (hz C cl) (hzf s0 H0 C cl fp)) (fun s0 H0 C cl fp => lc_tests L s0 H0 C cl fp) (fun s0 H0 C cl fp => lc_elts L s0 H0 C cl fp) hs) fun D' σ' H' q => by
    obtain ⟨rfl, rfl, rfl⟩ := q
    exact lc_readR (Q := fun v H1 => gName iy v σ' H1 D'.nx) (by have := L.len; rw [upto_len] at this; exact this) L.ft ⟨rfl, Ex.refl _, fun v H1 e1 hv => k v H1 e1 hv⟩
/-- y = {}, y = [script, ..] -/
theorem j_setD {y : Str} {py : Pos} {i : Nat} {kvs : List (List L2.Key × V)} (nd : X.N.Nodup) (h : PE X e (tDN σ H kvs)) (k : ∀ d H1, H d = none → Ex H H1 → H1 d = some (.dT kvs) → D.nx (σ.set i (some (.ref d))) H1) (hN : X.N[i]? = some y := by rfl) (hl : Loc X.env.scope y := by first | exact Or.inl rfl | exact Or.inr rfl)
    (hs : swapsWith e (some (.Name y py)) pos.line X.env = pure false := by rfl) (hf : X.fn y = true ∨ X.env.scope.names.lookup y = some .local := by first | exact .inl rfl | exact .inr rfl) : J1 X (.Assign [.Name y py] e pos) σ H D :=
  PS.cq (ps_set nd hN hl h hs hf) fun D' σ' H' q => by
    obtain ⟨rfl, rfl, rfl⟩ := q
    exact ⟨rfl, Ex.refl _, fun p H1 hp e1 hd => k p H1 hp e1 hd⟩
theorem j_setRow {y : Str} {py : Pos} {i : Nat} {e0 e1 e2 e3 : Expr} {v : V} {n1 n2 n3 : Int} (nd : X.N.Nodup) (h0 : JV X e0 σ H v) (h1 : JD X e1 σ H (.int n1)) (h2 : JD X e2 σ H (.int n2)) (h3 : JD X e3 σ H (.int n3)) (k : ∀ R H1, H R = none → Ex H H1 → H1 R = some (.lst [v, .int n1, .int n2, .int n3]) → D.nx (σ.set i (some (.ref R))) H1)
    (hN : X.N[i]? = some y := by rfl) (hl : Loc X.env.scope y := by first | exact Or.inl rfl | exact Or.inr rfl)
    (hs : swapsWith (.List [e0, e1, e2, e3] p) (some (.Name y py)) pos.line X.env = pure false := by rfl) (hf : X.fn y = true ∨ X.env.scope.names.lookup y = some .local := by first | exact .inl rfl | exact .inr rfl)
    (he0 : starEach [e0, e1, e2, e3] X.env = (false, eval e0 X.env) :: starEach [e1, e2, e3] X.env := by rfl) (he1 : starEach [e1, e2, e3] X.env = (false, eval e1 X.env) :: starEach [e2, e3] X.env := by rfl) (he2 : starEach [e2, e3] X.env = (false, eval e2 X.env) :: starEach [e3] X.env := by rfl) (he3 : starEach [e3] X.env = (false, eval e3 X.env) :: starEach [] X.env := by rfl) :
    J1 X (.Assign [.Name y py] (.List [e0, e1, e2, e3] p) pos) σ H D :=
  PS.cq (ps_set nd hN hl (pe_lst (pa_cons h0 (pa_cons h1 (pa_cons h2 (pa_cons h3 pa_nil he3) he2) he1) he0)) hs hf) fun D' σ' H' q => by
    obtain ⟨rfl, rfl, rfl⟩ := q
    refine ⟨rfl, Ex.refl _, fun u H1 e1 hu => ⟨rfl, e1, fun u1 H2 e2 hu1 => ⟨rfl, e1.trans e2, fun u2 H3 e3 hu2 => ⟨rfl, (e1.trans e2).trans e3, fun u3 H4 e4 hu3 => ⟨by show 4 ≤ sizeLine; decide, fun t ht => ?_⟩⟩⟩⟩⟩
    subst hu
    rw [tp_int hu1, tp_int hu2, tp_int hu3]
    have e14 := ((e1.trans e2).trans e3).trans e4
    exact k t _ (fresh_back e14 ht) (e14.trans (Ex.nw ht)) upd_same
/-- no test -/
theorem ptq_nil {ρ : Rw} {R : Addr} (r : Row X.K ρ R H) : PTs X [] (tTQ R σ H fun b H'' => b = true ∧ Row X.K ρ R H'') := PTs.cq pts_nil fun σ' H1 Q q => by
  obtain ⟨rfl, e1, q⟩ := q
  exact q true H1 (KR.of (Ex.refl _)) ⟨rfl, r.ex e1⟩
theorem jq_rows {ρ : Rw} {R : Addr} {Lp : List Int → Prop} {L : List (List Int)} (h : JD X e σ H (dR L)) (r : Row X.K ρ R H) (hne : L ≠ []) (hl : L.length ≤ 1000) (ha : ∀ l ∈ L, Lp l) : JQ R X e σ H (φRows X.K ρ R Lp) := PE.cq h fun σ' H1 Q q => by
  obtain ⟨rfl, e1, q⟩ := q
  exact ⟨rfl, e1, fun v H2 e2 hv => q v H2 (KR.of e2) ⟨r.ex (e1.trans e2), L, hne, hl, ha, hv⟩⟩
end
/-! ### data that are alike -/
theorem al_int (i : Int) : Al 2 (.int i) := .inl (.inl (.inr ⟨i, rfl⟩))
theorem al_none : Al 2 .none := .inl (.inl (.inl rfl))
theorem al_ints (l : List Int) (h : l.length ≤ 1000) : Al 1 (dI l) := .inr ⟨_, rfl, by rw [List.length_map]; exact h, fun x hx => by
  obtain ⟨i, _, rfl⟩ := List.mem_map.mp hx
  exact .inr ⟨i, rfl⟩⟩
theorem al_dI (l : List Int) (h : l.length ≤ 1000) : Al 2 (dI l) := .inl (al_ints l h)
theorem al_dP (p : Int × List Int) (h : p.2.length ≤ 1000) : Al 2 (dP p) := .inr ⟨_, rfl, by simp, fun x hx => by
  rcases List.mem_cons.mp hx with rfl | hx
  · exact .inl (.inr ⟨_, rfl⟩)
  · rw [List.mem_singleton.mp hx]
    exact al_ints _ h⟩
theorem al_dMax (l : List Int) : Al 2 (dMax l) := by
  unfold dMax
  split
  · exact al_none
  · exact al_int _
/-! ### plain words for the law -/
theorem pass_eq (W : List (List Int)) (S L : List Int) : decide ((L.filter fun one => !decide (one ∈ S) || !decide (((goM W S L).filter fun o => decide (o < one) && decide (o ∈ fr W one)) = [])) = []) = passM W S L := by
  have key : ∀ one, (!decide (one ∈ S) || !decide (((goM W S L).filter fun o => decide (o < one) && decide (o ∈ fr W one)) = [])) = !(decide (one ∈ S) && !lowF W one (goM W S L)) := fun one => by
    have e : decide (((goM W S L).filter fun o => decide (o < one) && decide (o ∈ fr W one)) = []) = !lowF W one (goM W S L) := by
      cases hl : lowF W one (goM W S L) with
      | true =>
        obtain ⟨o, h1, h2, h3⟩ := lowF_iff.mp hl
        refine decide_eq_false (List.ne_nil_of_mem (a := o) ?_)
        rw [List.mem_filter, Bool.and_eq_true, decide_eq_true_eq, decide_eq_true_eq]
        exact ⟨h3, h2, h1⟩
      | false =>
        refine decide_eq_true (List.filter_eq_nil_iff.mpr fun o ho => ?_)
        rw [Bool.and_eq_true, decide_eq_true_eq, decide_eq_true_eq]
        rintro ⟨h1, h2⟩
        rw [lowF_iff.mpr ⟨o, h2, h1, ho⟩] at hl
        cases hl
    rw [e, Bool.not_and]
  have e2 : (fun one => !decide (one ∈ S) || !decide (((goM W S L).filter fun o => decide (o < one) && decide (o ∈ fr W one)) = [])) = fun one => !(decide (one ∈ S) && !lowF W one (goM W S L)) := funext key
  rw [e2]
  unfold passM
  cases h : L.all fun one => decide (one ∈ S) && !lowF W one (goM W S L) with
  | true =>
    refine decide_eq_true (List.filter_eq_nil_iff.mpr fun o ho => ?_)
    rw [List.all_eq_true.mp h o ho]
    exact Bool.false_ne_true
  | false =>
    refine decide_eq_false fun z => ?_
    have := List.filter_eq_nil_iff.mp z
    have h2 : (L.all fun one => decide (one ∈ S) && !lowF W one (goM W S L)) = true := List.all_eq_true.mpr fun o ho => by
      have := this o ho
      simpa using this
    rw [h2] at h
    cases h
theorem Cost.get {W : List (List Int)} {S ws T : List Int} {kvs : List (List L2.Key × V)} {H : Hp} (hS : Asc W.length S) (c : Cost W S ws (choicesM (upto W.length)) kvs H) (h : tellM W S T ≠ []) : ∃ v, valV kvs (kI T) = some v ∧ Tp H v (dP (minL (cheapTM W S T ws))) := by
  rcases c T with ⟨_, h2⟩ | ⟨v, m, h1, h2, h3⟩
  · obtain ⟨x, hx⟩ := List.exists_mem_of_ne_nil _ h
    have := (mem_cand (ws := ws) hS (sumW ws x, x)).mpr (List.mem_map.mpr ⟨x, hx, rfl⟩)
    rw [h2] at this
    exact absurd this (by simp)
  · exact ⟨v, h1, by rw [← cand_best hS h3]; exact h2⟩
theorem srt_all (W : List (List Int)) (S : List Int) : SrtOk (foundM W S) := by
  have := srt_found (W := W) S (fun _ => true)
  rw [List.filter_eq_self.mpr fun _ _ => rfl] at this
  exact this
end TJ
set_option Elab.async false
set_option linter.all false
set_option maxRecDepth 100000
set_option maxHeartbeats 4000000
namespace TJ
open PySem PySem.Spec PyProof.Rows L2
open Evl (Ex fresh_back)
open LamX (ExtN Tabs TabS TabB lamCx)
/-! ### told -/
theorem Tp.xt {H H' : Hp} {v : V} {d : PyData} (h : Tp H v d) (e : ExtN H H') : Tp H' v d := h.mp (fun a xs q => e _ _ q fun ps z => nomatch z) (fun a xs q => e _ _ q fun ps z => nomatch z)
/-- what the work gives: data, or the exception -/
def tLb (CN : Addr) (σ : L2.St) (H : Hp) (od : Option PyData) (E : XK) : TE := fun σ' H1 Q => σ' = σ ∧ ExtN H H1 ∧ match od with
  | some d => ∀ v H2, Ex H1 H2 → Tp H2 v d → Q v H2
  | none => ∀ H2, Ex H1 H2 → E (.ref CN) none H2
def dOf : Option PyData → PyData
  | some d => d
  | none => .none
/-- data, behind all but the tables -/
def tXn (σ : L2.St) (H : Hp) (d : PyData) : TE := fun σ' H1 Q => σ' = σ ∧ Ex H H1 ∧ ∀ v H2, ExtN H1 H2 → Tp H2 v d → Q v H2
section
variable {X : Cx} {e a b c : Expr} {es : List Expr} {σ : L2.St} {H : Hp} {pos p p2 : Pos} {x : Str} {D : Ends}
theorem jx_told {CN CS Pt c : Addr} {od : Option PyData} {params : Arguments} {body : Expr} {scope : Scope} {lpos : Pos} (B : Bt X.mg) (N : NM2 X.K X.mg CN CS) (F : Df X.K X.mg "_law_told" sTold ["_law_work"]) (TB : TabB X.base X.mg c Pt) (hcode : X.env.code = .ref c) (hP : H Pt = some (.tbl #[])) (hr : Room 9 X.A)
    (L : LamX.LamS X.env.scope scope) (hb : ∀ (A : Around) (outer : List Env) (s : Shared) (H0 : Hp) (E : XK) (f c' : Addr), Room 7 (A.deeper (LamX.lamEnv X scope s.heap.objs.size f c')) → PE (lamCx X A outer s H0 E scope f c') body (tLb CN σ H od E))
    (hg : Gl X "_law_told" := by rfl) (hdef : defaultsOf params X.env = ([], []) := by rfl)
    (hbind : ∀ (q : Str) (cl : List (Str × Addr)) (pm cv ctv : Value), bindArgs (PySem.W.kla_fn "<lambda>" q params body scope cl pm cv ctv) ⟨[], []⟩ = pure [] := by intros; rfl) :
    PE X (.Call (.Name "_law_told" p) [.Lambda params body scope lpos] [] pos) (tXn σ H (dOf od)) := by
  obtain ⟨g, fd, hm, hF, hb'⟩ := F.ex
  obtain ⟨oc, od', kV, doc, pm, an, cdv, ct, osl, rfl, lk, hcd⟩ := hF.ex
  refine PE.cq (LamX.pe_lamcall (T := [(Pt, X.env.qual ++ "<lambda>")]) (TT := TTo CN) (k := 7) (Ng := ["_law_work", "e"]) (a := "_law_work") (t := fun E => tLb CN σ H od E) hg hm hF.kp lk hcd hb' scTold rfl (.inl rfl) (told_gives2 B N) TB hcode List.mem_cons_self (fun q hq _ => by rw [List.mem_singleton.mp hq]) hr L hdef hbind (fun A outer s H0 E f c' hr2 => hb A outer s H0 E f c' hr2)) fun σ' H1 Q q => ?_
  obtain ⟨rfl, e1, q⟩ := q
  refine ⟨fun q hq => by rw [List.mem_singleton.mp hq]; exact TabS.nil (e1 _ _ hP), fun H2 e2 _ => ?_⟩
  cases od with
  | some d => exact ⟨rfl, (ExtN.of e1).trans e2, fun v H3 e3 hv => q v H3 (e2.trans (ExtN.of e3)) hv⟩
  | none => exact ⟨rfl, (ExtN.of e1).trans e2, fun H3 e3 => ⟨rfl, rfl, q .non H3 (e2.trans (ExtN.of e3)) .non⟩⟩
/-- f(e, b), e behind all but the tables -/
theorem jx_call2 {k : Nat} {ps : List Str} {R : List PyData → PyData → Prop} {d1 d2 d : PyData} (O : OkC X.prog X.w X.K X.mg X.base CX0 x k ps (spD R)) (hr : Room k X.A) (ha : PE X a (tXn σ H d1)) (hb : ∀ H', ExtN H H' → JD X b σ H' d2) (hR : R [d1, d2] d)
    (hg : Gl X x := by rfl) (hdb : (x == ("__debug__" : Str)) = false := by decide) (he : starEach [a, b] X.env = (false, eval a X.env) :: starEach [b] X.env := by rfl) (he2 : starEach [b] X.env = (false, eval b X.env) :: starEach [] X.env := by rfl) (hpl : (backTo pos (starEach [b] X.env)).any (·.1) = false := by rfl) :
    PE X (.Call (.Name x p) [a, b] [] pos) (tXn σ H d) := by
  obtain ⟨f, fd, hm, hk, hb', F⟩ := O.ex
  have hbb : PE X b (fun σ2 H2 Q => ∃ z : { H' // ExtN H H' }, tD σ z.1 d2 σ2 H2 Q) := PE.fam fun z => hb z.1 z.2
  refine PE.cq (pe_call F hr hg hm hk hb' .nil pass0 (pa_cons ha (pa_cons hbb pa_nil he2) he) hdb he hpl) fun σ' H1 Q q => ?_
  obtain ⟨rfl, e1, q⟩ := q
  refine ⟨rfl, e1, fun v H2 e2 hv => ⟨⟨H2, (ExtN.of e1).trans e2⟩, rfl, Ex.refl _, fun u H3 e3 hu => ?_⟩⟩
  exact ⟨[d1, d2], d, .cons (hv.ex e3) (.cons hu .nil), hR, fun w' H4 e4 hw => q w' H4 (e2.trans (ExtN.of (e3.trans e4))) hw⟩
/-- if not e: .. (not taken) -/
theorem j_ifnoX {thn : List Stmt} (h : PE X e (tXn σ H (.bool true))) (k : ∀ H1, ExtN H H1 → D.nx σ H1) (he : ∀ whole, isTrue e X.env whole = (do let v ← whole; standAt e.pos; holding [v] (truthy v)) := by intro _; rfl) : J1 X (.If (.UnaryOp .Not e p) thn [] pos) σ H D := by
  refine PS.cq (ps_if (pt_not (pt_val h he)) pss_never pss_nil) fun D' σ' H' q => ?_
  obtain ⟨rfl, rfl, rfl⟩ := q
  refine ⟨rfl, Ex.refl _, fun v H1 e1 hv => ⟨true, tp_bl hv, iteF (k H1 e1)⟩⟩
end
end TJ
set_option Elab.async false
set_option linter.all false
set_option maxRecDepth 100000
set_option maxHeartbeats 16000000
namespace TJ
open PySem PySem.Spec PyProof.Rows L2
open Evl (Ex fresh_back)
open LamX (ExtN Tabs TabS TabB lamCx)
abbrev sLaw : Stmt := topS 56
abbrev NLaw : List Str := ["_law_script", "_law_row", "_law_web_here", "_law_begin", "_law_prices", "_law_found", "_law_ends_here", "_law_sums", "_law_person", "_law_own", "_law_costs", "_law_people", "_law_there", "_law_pair", "_law_goal", "_law_one", "_law_end", "_law_at", "_law_here", "_law_other"]
theorem scLaw : FnScope NLaw ["_law_script"] (defScope sLaw) := ⟨rfl, rfl, rfl, by decide +kernel, rfl, by decide +kernel, by decide +kernel⟩
def spLaw (K : PySem.W.Frag) (Pt : Addr) : Sp := fun vs H Q _ => ∃ (scr : Addr) (ns : List Int), vs = [.ref scr] ∧ SqL K H scr (ns.map V.int) ∧ H Pt = some (.tbl #[]) ∧ ∀ H', Q (.bl true) H'
theorem get_map {β : Type} {E : List (List Int)} {j : Nat} {e : List Int} (g : List Int → β) (h : E[j]? = some e) : (E.map g)[j]? = some (g e) := by rw [List.getElem?_map, h]; rfl
theorem ok_law {P : Program} {w : World} {K : PySem.W.Frag} {mg : Str → Option Value} {base : Heap} {CN CS c Pt f : Addr} {fd : FuncData} (B : Bt mg) (N : NM2 K mg CN CS) (TB : TabB base mg c Pt) (F : Fun K "law" "law" sLaw f fd) (hcode : fd.code = .ref c) (FT : Df K mg "_law_told" sTold ["_law_work"])
    (Owb : ∀ ρ, OkC P w K mg base CX0 "_law_web" 2 ["_law_row", "_law_most"] (spWeb K ρ)) (Oup : ∀ ρ, OkC P w K mg base CX0 "_law_up" 2 ["_law_row", "_law_web_here"] (spUp K ρ)) (Otk : ∀ ρ, OkC P w K mg base CX0 "_law_taken" 1 ["_law_row", "_law_many"] (spTaken K ρ)) (Opk : ∀ ρ, OkC P w K mg base CX0 "_law_pick" 2 ["_law_row", "_law_kinds"] (spPick K ρ))
    (Osr : OkC P w K mg base CX0 "_law_search" 3 ["_law_web_here", "_law_begin"] spFound) (Oen : OkC P w K mg base CX0 "_law_ends" 4 ["_law_web_here", "_law_begin"] (spD REnds)) (Oal : OkC P w K mg base CX0 "_law_alike" 3 ["_law_found", "_law_due"] (spD (RAlike 2)))
    (Ow : OkC P w K mg base CX0 "worth" 5 ["web", "standing", "weights"] (spD RWorth)) (Ori : OkC P w K mg base CX0 "richest_end" 5 ["web", "standing", "weights"] (spD RRich)) (Opo : OkC P w K mg base CX0 "poorest_end" 5 ["web", "standing", "weights"] (spD RPoor)) (Orw : OkC P w K mg base CX0 "richest_with" 5 ["web", "standing", "weights", "person"] (spD RRichW))
    (Ows : OkC P w K mg base CX0 "worths" 5 ["web", "standing", "weights"] (spD RWorths)) (Ost : OkC P w K mg base CX0 "_law_sets" 1 ["_law_many"] (spD RSets)) (Odn : OkC P w K mg base CX0 "_law_done" 2 ["_law_web_here", "_law_here", "_law_calls"] (spD RDone)) (Oce : OkC P w K mg base CX0 "cheapest_end" 5 ["web", "standing", "weights"] (spD RCheapE))
    (Oct : OkC P w K mg base (L2.CX P w) "cheapest_telling" 7 ["web", "standing", "goal", "weights"] (spX CN RCheapT XCheapT)) : FnOk P w K mg base CX0 10 f fd ["_law_script"] (spLaw K Pt) := by
  obtain ⟨oc, od, kV, doc, pm, an, cdv, ct, osl, rfl, lk, hcd⟩ := F.ex
  have hcdv : cdv = .ref c := hcode
  subst hcdv
  refine fn_of lk hcd scLaw (fun vs H Q E h => by obtain ⟨scr, ns, rfl, _⟩ := h; rfl) fun A outer s H vs Q E hr hsp => ?_
  obtain ⟨scr, ns, rfl, hS0, hT0, q⟩ := hsp
  refine ⟨_, PSs.nox (show JS (cxOf CX0 P w K mg base NLaw "law" (defScope sLaw) f (.ref c) A outer s H E).nox (defBody sLaw) (start NLaw [.ref scr]) H { nx := fun _ H' => Q .non H', rt := Q } from ?_), rfl, rfl, rfl⟩
  have hr1 : Room 9 (cxOf CX0 P w K mg base NLaw "law" (defScope sLaw) f (.ref c) A outer s H E).nox.A := hr
  -- the row
  refine js_cons (j_setRow (i := 1) scLaw.nd (jv_var 0 rfl) jd_int jd_int jd_int fun R H1 nR e1 hR => ?_)
  have r1 : Row K ⟨ns, scr⟩ R H1 := ⟨0, 9910, 0, hR, sqR_of hS0 nR e1, trivial, by decide, by decide, by decide⟩
  have t1 : H1 Pt = some (.tbl #[]) := e1 _ _ hT0
  -- the web
  refine js_cons (j_setQ (i := 2) scLaw.nd (jq_web (Owb ⟨ns, scr⟩) (hr1.mono (by decide)) (jv_var 1 rfl) jd_int r1) fun vW H2 k2 hW' => ?_)
  obtain ⟨r2, W, hW, tW⟩ := hW'
  have t2 := tab_kr r1 t1 k2
  have hn : W.length ≤ 7 := by have := hW.n5; omega
  have hn5 := hW.n5
  -- those who stand, the prices
  refine js_cons (j_pairQ (i1 := 3) (i2 := 4) (R := R) (ρ := ⟨ns, scr⟩) (φ := fun v H' => ∃ S, Asc W.length S ∧ Tp H' v (dI S)) (ψ := fun v H' => ∃ ws, Wt W.length ws ∧ Tp H' v (dI ws)) scLaw.nd (jq_up (Oup ⟨ns, scr⟩) (hr1.mono (by decide)) hW (jv_var 1 rfl) (jd_var 2 tW) r2) (fun v H' k' r' _ => ?_) (fun v Ha Hb h k => by obtain ⟨S, h1, h2⟩ := h; exact ⟨S, h1, k.tp h2 (flt_I S)⟩) (fun v Ha Hb h k => by obtain ⟨S, h1, h2⟩ := h; exact ⟨S, h1, k.tp h2 (flt_I S)⟩) fun vB vP H3 k3 r3 hB hP => ?_)
  · have tW' := k'.tp tW (flt_W W)
    refine jq_mono (jq_tuple B.tuple (jq_lcT (iv := 15) (ds0 := W.map dI) (ψ := fun b => b = true) (φ := fun i d => ∃ z : Int, 0 ≤ z ∧ z < 20 ∧ d = .int z) (I := fun i ds => ∃ ws : List Int, ds = ws.map .int ∧ ws.length = i ∧ ∀ x ∈ ws, 0 ≤ x ∧ x ≤ 99) scLaw.nd (jd_var 2 tW') r'
      ⟨by rw [List.length_map]; omega, ⟨[], rfl, rfl, fun x hx => absurd hx (by simp)⟩, fun i ds hi hb _ => (nomatch hb), fun i ds d hi hd h => ?_, fun s0 H0 C cl fp i x H'' hi hx k r'' => ptq_nil r'', fun s0 H0 C cl fp i x H'' hi hx k r'' => ?_⟩)) fun v H'' k'' hv => ?_
    · obtain ⟨z, z0, z1, rfl⟩ := hd
      obtain ⟨ws, rfl, hl, hx⟩ := h
      refine ⟨ws ++ [z], by rw [List.map_append]; rfl, by rw [List.length_append, hl]; rfl, fun x hx' => ?_⟩
      rcases List.mem_append.mp hx' with hx' | hx'
      · exact hx x hx'
      · rw [List.mem_singleton.mp hx']; omega
    · refine jq_mono (jq_taken (Otk ⟨ns, scr⟩) (hr1.mono (by decide)) (jv_var 1 rfl) jd_int (by decide) (by decide) r'') fun v H4 k4 hv => ?_
      obtain ⟨r4, z, z0, z1, rfl⟩ := hv
      exact ⟨r4, .int z, by simp [flt], ⟨z, z0, z1, rfl⟩, .int z⟩
    · obtain ⟨r4, ds, ⟨ws, rfl, hl, hx⟩, _, _, tv⟩ := hv
      exact ⟨r4, ws, ⟨by rw [hl, List.length_map], hx⟩, tv⟩
  obtain ⟨S, hS, tB⟩ := hB
  obtain ⟨ws, hw, tP⟩ := hP
  have tW3 := k3.tp tW (flt_W W)
  have t3 := tab_kr r2 t2 k3
  have hlS := asc_len hS
  have hf32 := found_len hS hW
  have hle := len_ends (W := W) hS hn
  have hne := ends_ne hW hS
  -- found, the ends
  refine js_cons (j_pairK (i1 := 5) (i2 := 6) scLaw.nd (jk_call Osr (hr1.mono (by decide)) hW hS (ja_cons (jd_var 2 tW3) (ja_cons (jd_var 3 tB) ja_nil))) (jd_call Oen (hr1.mono (by decide)) (ja_cons (jd_var 2 tW3) (ja_cons (jd_var 3 tB) ja_nil)) ⟨W, S, hW, hS, rfl, rfl⟩) fun df kvF vE H4 nd4 e4 hdf hKF tE => ?_)
  have tW4 := tW3.ex e4
  have tB4 := tB.ex e4
  have tP4 := tP.ex e4
  -- worth
  refine js_cons (j_ifno (jt_is (jt_not (jt_val (jd_call Oal (hr1.mono (by decide)) (ja_cons (jd_call Ow (hr1.mono (by decide)) (ja_cons (jd_var 2 tW4) (ja_cons (jd_var 3 tB4) (ja_cons (jd_var 4 tP4) ja_nil))) ⟨W, S, ws, hW, hS, hw, rfl, rfl⟩) (ja_cons (jd_sumW (ws := ws) (S := S) rfl B.sum (jd_lcT (i := 15) (l := S) (enc := PyData.int) (f := fun _ => true) (g := fun q => .int (wt ws q)) scLaw.nd (jd_var 3 tB4)
    ⟨fun _ => flt_int _, asc_small hS hn, fun s0 H0 C cl fp a ha v H' e' hv => pts_yes, fun s0 H0 C cl fp a ha hf v H' e' hv => jd_wt hw (hS.lt a ha) (jd_var 4 (tP4.ex e')) (jd_var 15 hv)⟩)) ja_nil)) ⟨_, al_int _, rfl, rfl⟩))) rfl) fun H5 e5 => ?_)
  have tW5 := tW4.ex e5
  have tB5 := tB4.ex e5
  have tP5 := tP4.ex e5
  have tE5 := tE.ex e5
  -- sums
  refine js_cons (j_set (i := 7) (d := dL ((endsM W S).map (sumW ws))) scLaw.nd (jd_is (jd_lcL (i := 16) (l := endsM W S) (enc := dI) (f := fun _ => true) (g := fun e => .int (sumW ws e)) scLaw.nd (jd_var 6 tE5)
    ⟨fun _ => flt_int _, by omega, fun s0 H0 C cl fp a ha v H' e' hv => pts_yes, fun s0 H0 C cl fp a ha hf v H' e' hv => ?_⟩) (dL_map _ _)) fun vSm H6 e6 tS => ?_)
  · have ae := asc_sub hS (mem_ends ha)
    exact jd_sumW (ws := ws) (S := a) rfl B.sum (jd_lcT (i := 15) (l := a) (enc := PyData.int) (f := fun _ => true) (g := fun q => .int (wt ws q)) scLaw.nd (jd_var 16 hv)
      ⟨fun _ => flt_int _, asc_small ae hn, fun s0 H0 C cl fp b hb v' H'' e'' hv' => pts_yes, fun s0 H0 C cl fp b hb hf v' H'' e'' hv' => jd_wt hw (ae.lt b hb) (jd_var 4 (tP5.ex (e'.trans e''))) (jd_var 15 hv')⟩)
  have s6 : LSt K ⟨ns, scr⟩ R Pt W S ws df vW vB vP vE vSm H6 := ⟨r3.ex ((e4.trans e5).trans e6), ((e4.trans e5).trans e6) _ _ t3, tW5.ex e6, tB5.ex e6, tP5.ex e6, tE5.ex e6, tS, kvF, (e5.trans e6) _ _ hdf, hKF⟩
  clear tW5 tB5 tP5 tE5 tW4 tB4 tP4 tW3 tB tP tE tS
  have hsum : (endsM W S).map (sumW ws) ≠ [] := by simpa using hne
  have hpos : 0 < ((endsM W S).map (sumW ws)).length := List.length_pos_iff.mpr hsum
  have hlt := ends_lt W S (asc_nodup hS)
  -- the richest end
  obtain ⟨mx1, mx2⟩ := maxI_max hsum
  obtain ⟨jx, jx1, jx2⟩ := first_at mx1
  have hjx : jx < (endsM W S).length := by have := (List.getElem?_eq_some_iff.mp jx1).1; rwa [List.length_map] at this
  have gjx : (endsM W S)[jx]? = some (endsM W S)[jx] := List.getElem?_eq_getElem hjx
  have sjx : sumW ws (endsM W S)[jx] = maxI ((endsM W S).map (sumW ws)) := by
    have := get_map (sumW ws) gjx
    rw [jx1] at this
    exact (Option.some.inj this).symm
  have bestx : minL ((endsM W S).map fun e => (-(sumW ws e), e)) = (-(sumW ws (endsM W S)[jx]), (endsM W S)[jx]) := by
    refine first_best (f := fun e => -(sumW ws e)) hlt gjx (fun y hy => ?_) (fun j y hj hy z => jx2 j hj ?_)
    · have := mx2 _ (List.mem_map.mpr ⟨y, hy, rfl⟩)
      rw [← sjx] at this
      show -(sumW ws _) ≤ -(sumW ws _)
      omega
    · rw [get_map (sumW ws) hy, ← sjx]
      have z' : -(sumW ws y) = -(sumW ws (endsM W S)[jx]) := z
      congr 1
      omega
  refine js_cons (j_ifno (jt_is (jt_not (jt_val (jd_call Oal (hr1.mono (by decide)) (ja_cons (jd_is (jd_call Ori (hr1.mono (by decide)) (ja_cons (jd_var 2 s6.tW) (ja_cons (jd_var 3 s6.tB) (ja_cons (jd_var 4 s6.tP) ja_nil))) ⟨W, S, ws, hW, hS, hw, hne, rfl, rfl⟩) (show _ = dP (maxI ((endsM W S).map (sumW ws)), (endsM W S)[jx]) by rw [bestx, ← sjx]; show dP (- -(sumW ws (endsM W S)[jx]), _) = _; rw [Int.neg_neg]))
    (ja_cons (jd_tup (ja_cons (jd_maxI rfl hpos B.max (jd_var 7 s6.tS)) (ja_cons (jd_ixL (jd_var 6 s6.tE) (jd_index (jd_var 7 s6.tS) (jd_maxI rfl hpos B.max (jd_var 7 s6.tS)) jx1 jx2) (get_map dI gjx)) ja_nil))) ja_nil)) ⟨_, al_dP _ (by have := asc_len (asc_sub hS (mem_ends (List.getElem_mem hjx))); show ((endsM W S)[jx]).length ≤ 1000; omega), rfl, rfl⟩))) rfl) fun H7 e7 => ?_)
  have s7 := s6.ex e7
  -- the poorest end
  obtain ⟨mn1, mn2⟩ := minI_min hsum
  obtain ⟨jn, jn1, jn2⟩ := first_at mn1
  have hjn : jn < (endsM W S).length := by have := (List.getElem?_eq_some_iff.mp jn1).1; rwa [List.length_map] at this
  have gjn : (endsM W S)[jn]? = some (endsM W S)[jn] := List.getElem?_eq_getElem hjn
  have sjn : sumW ws (endsM W S)[jn] = minI ((endsM W S).map (sumW ws)) := by
    have := get_map (sumW ws) gjn
    rw [jn1] at this
    exact (Option.some.inj this).symm
  have bestn : minL ((endsM W S).map fun e => (sumW ws e, e)) = (sumW ws (endsM W S)[jn], (endsM W S)[jn]) := by
    refine first_best (f := fun e => sumW ws e) hlt gjn (fun y hy => ?_) (fun j y hj hy z => jn2 j hj ?_)
    · have := mn2 _ (List.mem_map.mpr ⟨y, hy, rfl⟩)
      rw [← sjn] at this
      exact this
    · rw [get_map (sumW ws) hy, ← sjn]
      have z' : sumW ws y = sumW ws (endsM W S)[jn] := z
      rw [z']
  refine js_cons (j_ifno (jt_is (jt_not (jt_val (jd_call Oal (hr1.mono (by decide)) (ja_cons (jd_is (jd_call Opo (hr1.mono (by decide)) (ja_cons (jd_var 2 s7.tW) (ja_cons (jd_var 3 s7.tB) (ja_cons (jd_var 4 s7.tP) ja_nil))) ⟨W, S, ws, hW, hS, hw, hne, rfl, rfl⟩) (show _ = dP (minI ((endsM W S).map (sumW ws)), (endsM W S)[jn]) by rw [bestn, ← sjn]))
    (ja_cons (jd_tup (ja_cons (jd_minI rfl hpos B.min (jd_var 7 s7.tS)) (ja_cons (jd_ixL (jd_var 6 s7.tE) (jd_index (jd_var 7 s7.tS) (jd_minI rfl hpos B.min (jd_var 7 s7.tS)) jn1 jn2) (get_map dI gjn)) ja_nil))) ja_nil)) ⟨_, al_dP _ (by have := asc_len (asc_sub hS (mem_ends (List.getElem_mem hjn))); show ((endsM W S)[jn]).length ≤ 1000; omega), rfl, rfl⟩))) rfl) fun H8 e8 => ?_)
  have s8 := s7.ex e8
  -- a person
  refine js_cons (j_setQ (i := 8) scLaw.nd (jq_taken (Otk ⟨ns, scr⟩) (hr1.mono (by decide)) (jv_var 1 rfl) (jd_is (jd_lenT B.len (jd_var 2 s8.tW)) (by rw [List.length_map])) (by have := hW.n1; omega) (by omega) s8.row) fun vp H9 k9 hv9 => ?_)
  obtain ⟨r9, pp, p0, p1, rfl⟩ := hv9
  have s9 := s8.kr k9 r9
  have hpp : 0 ≤ pp ∧ pp < W.length := ⟨p0, p1⟩
  -- own
  refine js_cons (j_setLcR (i := 17) (iy := 9) (n := (endsM W S).length) (f := fun i => decide (pp ∈ (endsM W S).getD i.toNat [])) (g := fun i => .int (sumW ws ((endsM W S).getD i.toNat []))) scLaw.nd B.range (jd_is (jd_lenL B.len (jd_var 6 s9.tE)) (by rw [List.length_map]))
    ⟨fun _ => flt_int _, by rw [upto_len]; omega, fun s0 H0 C cl fp a ha v H' e' hv => ?_, fun s0 H0 C cl fp a ha hf v H' e' hv => ?_⟩ fun vo H10 e10 to => ?_)
  · obtain ⟨a0, a1⟩ := mem_upto.mp ha
    have ga : (endsM W S)[a.toNat]? = some ((endsM W S).getD a.toNat []) := by
      have : a.toNat < (endsM W S).length := by omega
      rw [List.getD_eq_getElem?_getD, List.getElem?_eq_getElem this]
      rfl
    exact pts_one (jt_in (jd_var 8 (.int pp)) (jd_ixL (jd_var 6 (s9.tE.ex e')) (jd_is (jd_var 17 hv) (by rw [Int.toNat_of_nonneg a0])) (get_map dI ga)))
  · obtain ⟨a0, a1⟩ := mem_upto.mp ha
    have ga : (endsM W S)[a.toNat]? = some ((endsM W S).getD a.toNat []) := by
      have : a.toNat < (endsM W S).length := by omega
      rw [List.getD_eq_getElem?_getD, List.getElem?_eq_getElem this]
      rfl
    exact jd_ixL (jd_var 7 (s9.tS.ex e')) (jd_is (jd_var 17 hv) (by rw [Int.toNat_of_nonneg a0])) (by rw [List.getElem?_map, get_map (sumW ws) ga]; rfl)
  have s10 := s9.ex e10
  have to' : Tp H10 vo (dL (richWM W S ws pp)) := by
    have e : (PyData.list (((upto (endsM W S).length).filter fun i => decide (pp ∈ (endsM W S).getD i.toNat [])).map fun i => .int (sumW ws ((endsM W S).getD i.toNat [])))) = dL (richWM W S ws pp) := by
      unfold dL richWM
      rw [List.map_map]
      exact congrArg PyData.list (by_place (endsM W S) (fun e => decide (pp ∈ e)) (fun e => PyData.int (sumW ws e)))
    exact e ▸ to
  -- the richest with
  refine js_cons (j_ifno (jt_is (jt_not (jt_val (jd_call Oal (hr1.mono (by decide)) (ja_cons (jd_call Orw (hr1.mono (by decide)) (ja_cons (jd_var 2 s10.tW) (ja_cons (jd_var 3 s10.tB) (ja_cons (jd_var 4 s10.tP) (ja_cons (jd_var 8 (.int pp)) ja_nil)))) ⟨W, S, ws, pp, hW, hS, hw, hpp, rfl, rfl⟩)
    (ja_cons (d := dMax (richWM W S ws pp)) (jd_ite (x := !decide (richWM W S ws pp = [])) (jt_is (jt_cmp (op_neD hr1.units) (k_neD (shp_L _) (shp_L [])) (jd_var 9 to') (jd_lst ja_nil)) (by rw [eqv_L])) (fun hx => by
      have ne : richWM W S ws pp ≠ [] := by simpa using hx
      unfold dMax
      rw [if_neg ne]
      exact jd_maxI (l := richWM W S ws pp) rfl (List.length_pos_iff.mpr ne) B.max (jd_var 9 to')) fun hx => by
      have ne : richWM W S ws pp = [] := by simpa using hx
      unfold dMax
      rw [if_pos ne]
      exact jd_non) ja_nil)) ⟨_, al_dMax _, rfl, rfl⟩))) rfl) fun H11 e11 => ?_)
  have s11 := s10.ex e11
  obtain ⟨kvf, hdf11, hKf⟩ := s11.fnd
  -- worths
  refine js_cons (j_ifno (jt_is (jt_not (jt_val (jd_call Oal (hr1.mono (by decide)) (ja_cons (jd_call Ows (hr1.mono (by decide)) (ja_cons (jd_var 2 s11.tW) (ja_cons (jd_var 3 s11.tB) (ja_cons (jd_var 4 s11.tP) ja_nil))) ⟨W, S, ws, hW, hS, hw, rfl, rfl⟩)
    (ja_cons (jd_tupleL B.tuple (jd_srtSet (l := (foundM W S).map (sumW ws)) (.inl rfl) (by rw [List.length_map]; omega) B.sorted B.set (jd_is (jd_lcL (i := 18) (l := foundM W S) (enc := dI) (f := fun _ => true) (g := fun q => .int (sumW ws q)) scLaw.nd (jd_listD hKf rfl B.list (jv_var 5 rfl) hdf11)
      ⟨fun _ => flt_int _, by omega, fun s0 H0 C cl fp a ha v H' e' hv => pts_yes, fun s0 H0 C cl fp a ha hf v H' e' hv => by
        have ae := asc_sub hS ((found_good W S).2 a ha)
        exact jd_sumW (ws := ws) (S := a) rfl B.sum (jd_lcT (i := 15) (l := a) (enc := PyData.int) (f := fun _ => true) (g := fun q => .int (wt ws q)) scLaw.nd (jd_var 18 hv)
          ⟨fun _ => flt_int _, asc_small ae hn, fun s0 H0 C cl fp b hb v' H'' e'' hv' => pts_yes, fun s0 H0 C cl fp b hb hf v' H'' e'' hv' => jd_wt hw (ae.lt b hb) (jd_var 4 (s11.tP.ex (e'.trans e''))) (jd_var 15 hv')⟩)⟩) (dL_map _ _)))) ja_nil)) ⟨_, al_dI _ (by
        have h1 : (sortU ((foundM W S).map (sumW ws))).length ≤ ((foundM W S).map (sumW ws)).length := nodup_lenI ((up_sortU _).imp fun {a b} h => by omega) fun x hx => (mem_sortU x _).mp hx
        rw [List.length_map] at h1
        omega), rfl, rfl⟩))) rfl) fun H12 e12 => ?_)
  have s12 := s11.ex e12
  -- costs
  refine js_cons (j_setD (i := 10) scLaw.nd jn_dict0 fun d H13 nd13 e13 hd13 => ?_)
  have s13 := s12.ex e13
  have nedf : df ≠ d := fun z => by
    obtain ⟨kv, h1, _⟩ := s12.fnd
    rw [z, nd13] at h1
    cases h1
  have h128 : (choicesM (upto W.length)).length ≤ 128 := choices_small (upto_asc _) hn
  refine js_cons (j_forL (i := 11) (ds := (choicesM (upto W.length)).map dI) scLaw.nd (jd_call Ost (hr1.mono (by decide)) (ja_cons (jd_is (jd_lenT B.len (jd_var 2 s13.tW)) (by rw [List.length_map])) ja_nil) ⟨W.length, hn, rfl, rfl⟩)
    (fun v j σ' H' => LSt K ⟨ns, scr⟩ R Pt W S ws df vW vB vP vE vSm H' ∧ Tp H' v (dR (choicesM (upto W.length))) ∧ ∃ kvs, H' d = some (.dT kvs) ∧ kvs.length ≤ j ∧ Cost W S ws ((choicesM (upto W.length)).take j) kvs H' ∧ ∃ o11 o12 o13, σ' = [some (.ref scr), some (.ref R), some vW, some vB, some vP, some (.ref df), some vE, some vSm, some (.int pp), some vo, some (.ref d), o11, o12, o13, none, none, none, none, none, none])
    (fun v H14 e14 hv => ⟨s13.ex e14, hv, [], e14 _ _ hd13, Nat.zero_le _, fun T => .inl ⟨rfl, rfl⟩, none, none, none, rfl⟩) (fun v j σ' H' p => p.2.1) (fun v0 j dd v σ' H' hj hv p => ?_) (fun v σ' H' p => ?_))
  · obtain ⟨s, pv, kvs, hd, hkl, hc, o11, o12, o13, rfl⟩ := p
    obtain ⟨L, hL, rfl⟩ := get_I hj
    have mem : L ∈ choicesM (upto W.length) := List.mem_of_getElem? hL
    have hj128 : j < 128 := by have := (List.getElem?_eq_some_iff.mp hL).1; omega
    have aL : Asc W.length L := asc_sub (upto_asc _) ((mem_choices _ L).mp mem)
    have aG : Asc W.length (goM W S L) := asc_go hS
    have htake : (choicesM (upto W.length)).take (j + 1) = (choicesM (upto W.length)).take j ++ [L] := by rw [List.take_add_one, hL]; rfl
    refine js_cons (j_set (i := 12) (d := dI (goM W S L)) scLaw.nd (jd_call Odn (hr1.mono (by decide)) (ja_cons (jd_var 2 s.tW) (ja_cons (jd_var 3 s.tB) (ja_cons (jd_var 11 hv) ja_nil))) ⟨W, S, L, hW, hS, aL, rfl, rfl⟩) fun vt Ha ea tt => ?_)
    have sa := s.ex ea
    have hva := hv.ex ea
    refine js_one (j_if (b := passM W S L) (jt_is (jt_cmp (op_eqD hr1.units) (k_eqD (shp_L _) (shp_L [])) (jd_is (jd_lcT (i := 15) (l := L) (enc := PyData.int) (f := fun one => !decide (one ∈ S) || !decide (((goM W S L).filter fun o => decide (o < one) && decide (o ∈ fr W one)) = [])) (g := PyData.int) scLaw.nd (jd_var 11 hva)
      ⟨fun _ => flt_int _, asc_small aL hn, fun s0 H0 C cl fp a ha v' H'' e' hv' => ?_, fun s0 H0 C cl fp a ha hf v' H'' e' hv' => jd_var 15 hv'⟩) (dL_filt _ _)) (jd_lst ja_nil)) (by rw [eqv_L]; exact pass_eq W S L)) (fun hb Hb eb => ?_) (fun hb Hb eb => js_nil ?_))
    · have hp := aL.lt a ha
      refine pts_one (jt_or (jt_notin (jd_var 15 hv') (jd_var 3 (sa.tB.ex e'))) fun _ => jt_is (jt_cmp (op_neD hr1.units) (k_neD (shp_L _) (shp_L [])) (jd_is (jd_lcT (i := 19) (l := goM W S L) (enc := PyData.int) (f := fun o => decide (o < a) && decide (o ∈ fr W a)) (g := PyData.int) scLaw.nd (jd_var 12 (tt.ex e'))
        ⟨fun _ => flt_int _, asc_small aG hn, fun s0 H0 C cl fp b hb v'' H3 e'' hv'' => ?_, fun s0 H0 C cl fp b hb hf v'' H3 e'' hv'' => jd_var 19 hv''⟩) (dL_filt _ _)) (jd_lst ja_nil)) (by rw [eqv_L]))
      exact pts_one (jt_and (jt_lt (jd_var 19 hv'') (jd_var 15 (hv'.ex e''))) fun _ => jt_in (jd_var 19 hv'') (jd_ixT (jd_var 2 (sa.tW.ex (e'.trans e''))) (jd_is (jd_var 15 (hv'.ex e'')) (by rw [Int.toNat_of_nonneg hp.1])) (get_W (hW.fr hp.1 hp.2))))
    · have sb := sa.ex eb
      have hvb := hva.ex eb
      refine js_cons (j_set (i := 13) (d := dP (sumW ws L, L)) scLaw.nd (jd_tup (ja_cons (jd_sumW (ws := ws) (S := L) rfl B.sum (jd_lcT (i := 15) (l := L) (enc := PyData.int) (f := fun _ => true) (g := fun q => .int (wt ws q)) scLaw.nd (jd_var 11 hvb)
        ⟨fun _ => flt_int _, asc_small aL hn, fun s0 H0 C cl fp b hb v' H'' e'' hv' => pts_yes, fun s0 H0 C cl fp b hb hf v' H'' e'' hv' => jd_wt hw (aL.lt b hb) (jd_var 4 (sb.tP.ex e'')) (jd_var 15 hv')⟩)) (ja_cons (jd_var 11 hvb) ja_nil))) fun vq Hc ec tq => ?_)
      have sc := sb.ex ec
      have eac := (ea.trans eb).trans ec
      have hdc : Hc d = some (.dT kvs) := eac _ _ hd
      have cc := hc.ex eac
      have ttc : Tp Hc vt (dI (goM W S L)) := tt.ex (eb.trans ec)
      have fin : ∀ (v : V) (Hd : Hp) (m : Int × List Int), Ex Hc Hd → Tp Hd v (dP m) → ((candM W S ws ((choicesM (upto W.length)).take j) (goM W S L) = [] → m = (sumW ws L, L)) ∧ ∀ m0, Bst (candM W S ws ((choicesM (upto W.length)).take j) (goM W S L)) m0 → m = if ltP m0 (sumW ws L, L) then m0 else (sumW ws L, L)) →
          Cost W S ws ((choicesM (upto W.length)).take (j + 1)) (putK kvs (kI (goM W S L)) v) (upd Hd d (.dT (putK kvs (kI (goM W S L)) v))) := fun v Hd m ed tv hm => by
        have hdd := ed _ _ hdc
        rw [htake]
        refine Cost.put ((cc.ex ed).upd hdd) hb fun m' h1 h2 => ?_
        have e : m' = m := by
          rcases cc (goM W S L) with ⟨_, h4⟩ | ⟨v0, m0, _, _, h4⟩
          · rw [h1 h4, hm.1 h4]
          · rw [h2 m0 h4, hm.2 m0 h4]
        rw [e]
        exact tv.updT hdd
      have hlp := length_putK (κ := List L2.Key) kvs (kI (goM W S L))
      rcases cc (goM W S L) with ⟨h1, h2⟩ | ⟨v0, m0, h1, h2, h3⟩
      · refine js_one (j_dput (dv := dP (sumW ws L, L)) hr1.units (jv_var 10 rfl) (jd_var 12 ttc) (jd_is (jd_min2P (q1 := (sumW ws L, L)) (q2 := (sumW ws L, L)) rfl hr1.units B.min (jd_var 13 tq) (jd_v (jv_dget2 hr1.units (jv_var 10 rfl) (jd_var 12 ttc) (jv_var 13 rfl) hdc) (by rw [h1]; exact tq))) (by rw [ite_self])) hdc (by omega) fun v Hd ed tv => ?_)
        have hdd := ed _ _ hdc
        exact ⟨(sc.ex ed).upd hdd nedf, (pv.ex (eac.trans ed)).updT hdd, _, upd_same, by have := hlp v; omega, fin v Hd _ ed tv ⟨fun _ => rfl, fun m1 hm => by rw [h2] at hm; exact absurd hm.1 (by simp)⟩, _, _, _, rfl⟩
      · refine js_one (j_dput (dv := dP (if ltP m0 (sumW ws L, L) then m0 else (sumW ws L, L))) hr1.units (jv_var 10 rfl) (jd_var 12 ttc) (jd_min2P (q1 := (sumW ws L, L)) (q2 := m0) rfl hr1.units B.min (jd_var 13 tq) (jd_v (jv_dget2 hr1.units (jv_var 10 rfl) (jd_var 12 ttc) (jv_var 13 rfl) hdc) (by rw [h1]; exact h2))) hdc (by omega) fun v Hd ed tv => ?_)
        have hdd := ed _ _ hdc
        exact ⟨(sc.ex ed).upd hdd nedf, (pv.ex (eac.trans ed)).updT hdd, _, upd_same, by have := hlp v; omega, fin v Hd _ ed tv ⟨fun z => by rw [z] at h3; exact absurd h3.1 (by simp), fun m1 hm => by rw [bst_uniq hm h3 fun _ => Iff.rfl]⟩, _, _, _, rfl⟩
    · have eab := ea.trans eb
      refine ⟨s.ex eab, pv.ex eab, kvs, eab _ _ hd, by omega, ?_, _, _, _, rfl⟩
      rw [htake]
      exact (hc.ex eab).skip hb
  obtain ⟨s14, _, kvs, hd14, _, hc14, o11, o12, o13, rfl⟩ := p
  rw [List.length_map, List.take_length] at hc14
  obtain ⟨kvf', hdf14, hKf'⟩ := s14.fnd
  -- the goal
  refine js_cons (j_setQ (i := 14) scLaw.nd (jq_pick (Lp := Asc W.length) (Opk ⟨ns, scr⟩) (hr1.mono (by decide)) (jv_var 1 rfl) (jq_lst2 (jq_pick (Lp := Asc W.length) (Opk ⟨ns, scr⟩) (hr1.mono (by decide)) (jv_var 1 rfl) (jq_rows (L := sortR (foundM W S)) (jd_srtR B.sorted (jd_listD hKf' rfl B.list (jv_var 5 rfl) hdf14) (by omega) (srt_all W S) hr1.units) s14.row (List.ne_nil_of_mem (List.mem_mergeSort.mpr (found_self S))) (by rw [len_sortR]; omega) fun l hl => asc_sub hS ((found_good W S).2 l (List.mem_mergeSort.mp hl))))
    fun H' k' r' => jq_up (Oup ⟨ns, scr⟩) (hr1.mono (by decide)) hW (jv_var 1 rfl) (jd_var 2 (k'.tp s14.tW (flt_W W))) r')) fun vG H15 k15 hG' => ?_)
  obtain ⟨r15, G, hG, tG⟩ := hG'
  have s15 := s14.kr k15 r15
  have hd15 := k15.dict s14.row hd14
  have hdf15 := k15.dict s14.row hdf14
  have hc15 : Cost W S ws (choicesM (upto W.length)) kvs H15 := fun T => by
    rcases hc14 T with h | ⟨v, m, h1, h2, h3⟩
    · exact .inl h
    · exact .inr ⟨v, m, h1, k15.tp h2 (flt_P m), h3⟩
  have hat : ∀ {H' : Hp} {a : Addr} {kk : List (List L2.Key × V)}, ExtN H15 H' → H15 a = some (.dT kk) → H' a = some (.dT kk) := fun x h => x _ _ h fun ps z => nomatch z
  -- the telling
  refine js_cons (j_ifnoX (jx_call2 (d1 := dOf (if fitsM W S G = true then some (dP (minL (cheapTM W S G ws))) else none)) (d2 := dOf (if fitsM W S G = true then some (dP (minL (cheapTM W S G ws))) else none)) Oal (hr1.mono (by decide)) (jx_told B N FT TB rfl s15.tab hr1 (LamX.lamS_by (by rfl)) fun A' outer' s' H0 E' f' c' hr7 => ?_) (fun H' x => ?_) ⟨_, ?_, rfl, rfl⟩) fun H16 x16 => ?_)
  · by_cases hf : fitsM W S G = true
    · rw [if_pos hf]
      refine PE.cq (PE.fam (ι := { H' // ExtN H15 H' }) fun z => jd_callX (σ := [some (.ref scr), some (.ref R), some vW, some vB, some vP, some (.ref df), some vE, some vSm, some (.int pp), some vo, some (.ref d), o11, o12, o13, some vG, none, none, none, none, none]) Oct hr7 (takes_of rfl rfl rfl rfl) (ja_cons (jd_var 2 (s15.tW.xt z.2)) (ja_cons (jd_var 3 (s15.tB.xt z.2)) (ja_cons (jd_var 14 (tG.xt z.2)) (ja_cons (jd_var 4 (s15.tP.xt z.2)) ja_nil)))) ⟨W, S, G, ws, hW, hS, hG, hw, hf, tell_ne hW hS hG hf, rfl, rfl⟩) fun σ2 H2 Q2 q2 => ?_
      obtain ⟨rfl, x2, q2⟩ := q2
      exact ⟨⟨H2, x2⟩, rfl, Ex.refl _, q2⟩
    · rw [if_neg hf]
      have hf' : fitsM W S G = false := by simpa using hf
      refine PE.cq (PE.fam (ι := { H' // ExtN H15 H' ∧ ∀ H'', Ex H' H'' → E' (.ref CN) none H'' }) fun z => jx_callX (σ := [some (.ref scr), some (.ref R), some vW, some vB, some vP, some (.ref df), some vE, some vSm, some (.int pp), some vo, some (.ref d), o11, o12, o13, some vG, none, none, none, none, none]) Oct hr7 (takes_of rfl rfl rfl rfl) (ja_cons (jd_var 2 (s15.tW.xt z.2.1)) (ja_cons (jd_var 3 (s15.tB.xt z.2.1)) (ja_cons (jd_var 14 (tG.xt z.2.1)) (ja_cons (jd_var 4 (s15.tP.xt z.2.1)) ja_nil)))) ⟨W, S, G, ws, hW, hS, hG, hw, hf', rfl⟩ z.2.2) fun σ2 H2 Q2 q2 => ?_
      obtain ⟨rfl, x2, q2⟩ := q2
      exact ⟨⟨H2, x2, q2⟩, rfl, Ex.refl _⟩
  · refine jd_ite (x := decide (G ∈ foundM W S)) (jt_din hKf' hr1.units (jd_var 14 (tG.xt x)) (jv_var 5 rfl) (hat x hdf15)) (fun hx => ?_) (fun hx => ?_)
    · have hf := (found_iff hW hS hG).mp (of_decide_eq_true hx)
      rw [if_pos hf]
      obtain ⟨v, h1, h2⟩ := hc15.get hS (tell_ne hW hS hG hf)
      exact jd_dget hr1.units (jv_var 10 rfl) (jd_var 14 (tG.xt x)) (hat x hd15) ⟨v, h1, h2.xt x⟩
    · have hf : ¬ fitsM W S G = true := fun z => (of_decide_eq_false hx) ((found_iff hW hS hG).mpr z)
      rw [if_neg hf]
      exact jd_non
  · by_cases hf : fitsM W S G = true
    · rw [if_pos hf]
      refine al_dP _ ?_
      obtain ⟨r, hr', e⟩ := List.mem_map.mp (minL_bst (R := cheapTM W S G ws) (by simpa [cheapTM] using tell_ne hW hS hG hf)).1
      rw [← e]
      have := asc_len (asc_sub hS (mem_tell hr'))
      show r.length ≤ 1000
      omega
    · rw [if_neg hf]
      exact al_none
  -- the cheapest end
  have hcE : cheapEM W S ws ≠ [] := by simpa [cheapEM] using hne
  refine js_one (j_ret (jd_call Oal (hr1.mono (by decide)) (ja_cons (jd_call Oce (hr1.mono (by decide)) (ja_cons (jd_var 2 (s15.tW.xt x16)) (ja_cons (jd_var 3 (s15.tB.xt x16)) (ja_cons (jd_var 4 (s15.tP.xt x16)) ja_nil))) ⟨W, S, ws, hW, hS, hw, hne, fun e he => tell_ne hW hS (asc_sub hS (mem_ends he)) (ends_fit hW hS he), rfl, rfl⟩)
    (ja_cons (jd_minL (R := cheapEM W S ws) hcE rfl hr1.units B.min (jd_is (jd_lcL (i := 16) (l := endsM W S) (enc := dI) (f := fun _ => true) (g := fun e => dP (costM W S ws e, e)) scLaw.nd (jd_var 6 (s15.tE.xt x16))
      ⟨fun _ => flt_P _, by omega, fun s0 H0 C cl fp a ha v H' e' hv => pts_yes, fun s0 H0 C cl fp a ha hf v H' e' hv => ?_⟩) (dPs_map _ _))) ja_nil)) ⟨_, al_dP _ ?_, rfl, rfl⟩) fun v H17 e17 tv => by rw [tp_bl tv]; exact q H17)
  · have htl := tell_ne hW hS (asc_sub hS (mem_ends ha)) (ends_fit hW hS ha)
    obtain ⟨v', h1, h2⟩ := hc15.get hS htl
    exact jd_tup (ja_cons (jd_is (jd_ixT (n := 0) (jd_dget hr1.units (jv_var 10 rfl) (jd_var 16 hv) (e' _ _ (hat x16 hd15)) ⟨v', h1, (h2.xt x16).ex e'⟩) jd_int rfl) (by rw [cost_eq htl])) (ja_cons (jd_var 16 hv) ja_nil))
  · obtain ⟨e, he, eq⟩ := List.mem_map.mp (minL_bst hcE).1
    rw [← eq]
    have := asc_len (asc_sub hS (mem_ends he))
    show e.length ≤ 1000
    omega
end TJ
set_option Elab.async false
set_option linter.all false
set_option maxRecDepth 100000
set_option maxHeartbeats 0
namespace TJ
open PySem PySem.Spec PyProof.Rows L2
def dd (x : Str) (i : Nat) : He.DefD := ⟨(x, none), x, x, defArgs (topS i), defBody (topS i), defScope (topS i), [], []⟩
def fn0 : List He.DefD := [dd "is_integer" 1, dd "is_in" 2, dd "is_list" 3, dd "need_web" 13, dd "is_set" 14, dd "need_state" 15, dd "need_two" 16, dd "need_person" 17, dd "taller_in" 18, dd "apart_in" 19, dd "choices" 20, dd "call_in" 22, dd "movers_in" 23, dd "may_call" 25, dd "fits" 26, dd "need_way" 27, dd "leads" 28, dd "telling_in" 29, dd "reached_from" 30, dd "ends_in" 32, dd "need_weights" 34, dd "cheapest_telling" 35, dd "worth" 36, dd "richest_end" 37, dd "poorest_end" 38, dd "cheapest_end" 39, dd "richest_with" 40, dd "worths" 41, dd "_law_taken" 43, dd "_law_pick" 44]
def fn1 : List He.DefD := [dd "_law_alike" 45, dd "_law_by" 46, dd "_law_web" 47, dd "_law_sets" 48, dd "_law_up" 49, dd "_law_call" 50, dd "_law_done" 51, dd "_law_movers" 52, dd "_law_search" 53, dd "_law_ends" 54, dd "_law_told" 55, dd "law" 56]
def fnL : List He.DefD := fn0 ++ fn1
def fa0 : List He.Fa := [.glo "is_integer", .glo "is_in", .glo "is_list", .glo "need_web", .glo "is_set", .glo "need_state", .glo "need_two", .glo "need_person", .glo "taller_in", .glo "apart_in", .glo "choices", .glo "call_in", .glo "movers_in", .glo "may_call", .glo "fits", .glo "need_way", .glo "leads", .glo "telling_in", .glo "reached_from", .glo "ends_in", .glo "need_weights", .glo "cheapest_telling", .glo "worth", .glo "richest_end", .glo "poorest_end", .glo "cheapest_end", .glo "richest_with", .glo "worths", .glo "_law_taken", .glo "_law_pick"]
def fa1 : List He.Fa := [.glo "_law_alike", .glo "_law_by", .glo "_law_web", .glo "_law_sets", .glo "_law_up", .glo "_law_call", .glo "_law_done", .glo "_law_movers", .glo "_law_search", .glo "_law_ends", .glo "_law_told", .glo "law", .free "len", .free "tuple", .free "list", .free "set", .free "int", .free "bool", .free "str", .free "sum", .free "min", .free "max", .free "all", .free "any", .free "sorted", .free "isinstance", .free "enumerate", .free "range", .int "MOST_PEOPLE" 7, .glo "SitError"]
def fa2 : List He.Fa := [.glo "NotMade", .exc "NotMade", .exm "NotMade" "SitError" true]
def faL : List He.Fa := fa0 ++ fa1 ++ fa2
def nm0 : List PySem.Str := ["is_integer", "is_in", "is_list", "need_web", "is_set", "need_state", "need_two", "need_person", "taller_in", "apart_in", "choices", "call_in", "movers_in", "may_call", "fits", "need_way", "leads", "telling_in", "reached_from", "ends_in", "need_weights", "cheapest_telling", "worth", "richest_end", "poorest_end", "cheapest_end", "richest_with", "worths", "_law_taken", "_law_pick"]
def nm1 : List PySem.Str := ["_law_alike", "_law_by", "_law_web", "_law_sets", "_law_up", "_law_call", "_law_done", "_law_movers", "_law_search", "_law_ends", "_law_told", "SitError", "BadWeb", "BadStanding", "BadPerson", "BadWeights", "NotMade", "MOST_PEOPLE"]
def nmL : List PySem.Str := nm0 ++ nm1
/-- what isinstance asks of NotMade -/
def exB (K : PySem.W.Frag) : Bool :=
  He.eqO (PySem.W.findIn K (.ref (He.ga K "NotMade")) "__getattribute__") (some (some (.builtin "BaseException.__getattribute__"))) &&
  (He.eqO (PySem.W.findIn K (.ref (He.ga K "NotMade")) "__getattr__") (some none) &&
  (decide (PySem.W.subIn K (.ref (He.ga K "NotMade")) (.type "BaseException") = some true) &&
  (PySem.W.hasDictIn K (He.ga K "NotMade") &&
  (He.eqO (PySem.W.findIn K (.ref (He.ga K "NotMade")) "__class__") (some (some (.builtin "object.__class__"))) &&
  (He.eqO (PySem.W.specialIn K (.builtin "object.__class__") "__get__") (some (some (.builtin "getset_descriptor.__get__"))) &&
  (decide (PySem.W.takesIn K (.builtin "object.__class__") = some true) &&
  decide (PySem.W.mroIn K (He.ga K "NotMade") (.type "object") = some true)))))))
abbrev Rl : PySem.W.OpenRow := PySem.W.OpenLaw.row PySem.Challenge.rw_tallsits_k10_whole_weights
abbrev hk : PySem.W.Hook := He.hookX 4 faL fnL [] [("law", none)] exB
def ob (s : PySem.W.SharedT) : He.AlX := He.obsX 4 faL fnL [] [("law", none)] exB (HandSHeadRun.getT s)
theorem ob_eq (s : PySem.W.SharedT) : ob s = hk.obs s.abs := He.obsX_eq (HandSHeadRun.getT_eq s)
theorem run (w : World) : HandSHeadRun.RunEq Rl (PySem.W.view Rl.prog [56]) hk ob 3000 nmL w := by
  intro os
  kernel_rfl
end TJ
set_option Elab.async false
set_option linter.all false
set_option maxRecDepth 100000
set_option maxHeartbeats 0
namespace TJ
open PySem PySem.Spec PyProof.Rows L2
/-- a def of the head's list -/
theorem dfm {K : PySem.W.Frag} {h : Heap} {mg : Str → Option Value} (c : He.SaysD faL fnL K) (KX : K.In h) (G : h.Ns mainGlobals mg) (x : Str) (i k j : Nat) (ps : List Str) (hk : fnL[k]? = some (dd x i)) (hj : faL[j]? = some (.glo x))
    (hb : ∀ (kV doc pm : Value) (an : Option Addr) (cdv ct : Value) (us : List Value), us.length = ps.length → bindArgs (PySem.W.fnOf x x (defArgs (topS i)) (defBody (topS i)) (defScope (topS i)) .none kV doc pm an cdv ct) ⟨us, []⟩ = pure (ps.zip us)) : Df K mg x (topS i) ps := by
  obtain ⟨fd, F0⟩ := c.def_ k hk
  have F : FunD K x x (defArgs (topS i)) (defBody (topS i)) (defScope (topS i)) [] [] (He.ga K x) fd := F0
  have hbs : Binds K fd ps [] := FunD.bindsN F hb
  obtain ⟨oc, od, dV, kV, doc, pm, an, cdv, ct, osl, e, lk, hcd, hD, _⟩ := F.ex
  rcases hD with ⟨_, rfl⟩ | ⟨e', _⟩
  · exact ⟨He.ga K x, fd, He.glo_ok KX G (c.fact j hj), ⟨⟨oc, od, kV, doc, pm, an, cdv, ct, osl, e, lk, hcd⟩, F.kp⟩, hbs⟩
  · exact absurd rfl e'
theorem bt_of {K : PySem.W.Frag} {h : Heap} {mg : Str → Option Value} (c : He.SaysD faL fnL K) (KX : K.In h) (G : h.Ns mainGlobals mg) : Bt mg := ⟨He.free_ok KX G (c.fact 42 (f := .free "len") rfl), He.free_ok KX G (c.fact 43 (f := .free "tuple") rfl), He.free_ok KX G (c.fact 44 (f := .free "list") rfl), He.free_ok KX G (c.fact 45 (f := .free "set") rfl), He.free_ok KX G (c.fact 46 (f := .free "int") rfl), He.free_ok KX G (c.fact 47 (f := .free "bool") rfl), He.free_ok KX G (c.fact 48 (f := .free "str") rfl), He.free_ok KX G (c.fact 49 (f := .free "sum") rfl), He.free_ok KX G (c.fact 50 (f := .free "min") rfl), He.free_ok KX G (c.fact 51 (f := .free "max") rfl), He.free_ok KX G (c.fact 52 (f := .free "all") rfl), He.free_ok KX G (c.fact 53 (f := .free "any") rfl), He.free_ok KX G (c.fact 54 (f := .free "sorted") rfl), He.free_ok KX G (c.fact 55 (f := .free "isinstance") rfl), He.free_ok KX G (c.fact 56 (f := .free "enumerate") rfl), He.free_ok KX G (c.fact 57 (f := .free "range") rfl)⟩
theorem nm_of {K : PySem.W.Frag} {h : Heap} {mg : Str → Option Value} (c : He.SaysD faL fnL K) (KX : K.In h) (G : h.Ns mainGlobals mg) (m : exB K = true) : NM2 K mg (He.ga K "NotMade") (He.ga K "SitError") := by
  obtain ⟨x1, x2, x3, x4⟩ := He.exc_ok (c.fact 61 (f := .exc "NotMade") rfl)
  obtain ⟨m1, m⟩ := He.ba m
  obtain ⟨m2, m⟩ := He.ba m
  obtain ⟨m3, m⟩ := He.ba m
  obtain ⟨m4, m⟩ := He.ba m
  obtain ⟨m5, m⟩ := He.ba m
  obtain ⟨m6, m⟩ := He.ba m
  obtain ⟨m7, m8⟩ := He.ba m
  exact ⟨⟨He.glo_ok KX G (c.fact 60 (f := .glo "NotMade") rfl), x2, x1, x3, x4⟩, He.glo_ok KX G (c.fact 59 (f := .glo "SitError") rfl), He.exm_ok (c.fact 62 (f := .exm "NotMade" "SitError" true) rfl), ⟨He.eqO_ok m1, He.eqO_ok m2, of_decide_eq_true m3, m4, He.eqO_ok m5, He.eqO_ok m6, of_decide_eq_true m7, of_decide_eq_true m8⟩⟩
/-- all the defs keep their promises -/
theorem all_ok {P : Program} {w : World} {K : PySem.W.Frag} {h : Heap} {mg : Str → Option Value} {c Pt : Addr} (s : He.SaysD faL fnL K) (KX : K.In h) (G : h.Ns mainGlobals mg) (m : exB K = true) {fd : FuncData} (F : Fun K "law" "law" sLaw (He.ga K "law") fd) (hcode : fd.code = .ref c) (base : Heap) (TB : LamX.TabB base mg c Pt) :
    FnOk P w K mg base CX0 10 (He.ga K "law") fd ["_law_script"] (spLaw K Pt) := by
  have B := bt_of s KX G
  have N := nm_of s KX G m
  have D_is_integer := dfm s KX G "is_integer" 1 0 0 ["value"] rfl rfl (fun _ _ _ _ _ _ us hl => match us, hl with | [_], _ => rfl)
  have D_is_in := dfm s KX G "is_in" 2 1 1 ["value", "least", "most"] rfl rfl (fun _ _ _ _ _ _ us hl => match us, hl with | [_, _, _], _ => rfl)
  have D_is_list := dfm s KX G "is_list" 3 2 2 ["value", "least", "most"] rfl rfl (fun _ _ _ _ _ _ us hl => match us, hl with | [_, _, _], _ => rfl)
  have D_need_web := dfm s KX G "need_web" 13 3 3 ["web"] rfl rfl (fun _ _ _ _ _ _ us hl => match us, hl with | [_], _ => rfl)
  have D_is_set := dfm s KX G "is_set" 14 4 4 ["web", "people"] rfl rfl (fun _ _ _ _ _ _ us hl => match us, hl with | [_, _], _ => rfl)
  have D_need_state := dfm s KX G "need_state" 15 5 5 ["web", "standing"] rfl rfl (fun _ _ _ _ _ _ us hl => match us, hl with | [_, _], _ => rfl)
  have D_need_two := dfm s KX G "need_two" 16 6 6 ["web", "standing", "goal"] rfl rfl (fun _ _ _ _ _ _ us hl => match us, hl with | [_, _, _], _ => rfl)
  have D_need_person := dfm s KX G "need_person" 17 7 7 ["web", "person"] rfl rfl (fun _ _ _ _ _ _ us hl => match us, hl with | [_, _], _ => rfl)
  have D_taller_in := dfm s KX G "taller_in" 18 8 8 ["web", "person"] rfl rfl (fun _ _ _ _ _ _ us hl => match us, hl with | [_, _], _ => rfl)
  have D_apart_in := dfm s KX G "apart_in" 19 9 9 ["web", "people"] rfl rfl (fun _ _ _ _ _ _ us hl => match us, hl with | [_, _], _ => rfl)
  have D_choices := dfm s KX G "choices" 20 10 10 ["people"] rfl rfl (fun _ _ _ _ _ _ us hl => match us, hl with | [_], _ => rfl)
  have D_call_in := dfm s KX G "call_in" 22 11 11 ["web", "standing", "person"] rfl rfl (fun _ _ _ _ _ _ us hl => match us, hl with | [_, _, _], _ => rfl)
  have D_movers_in := dfm s KX G "movers_in" 23 12 12 ["web", "standing"] rfl rfl (fun _ _ _ _ _ _ us hl => match us, hl with | [_, _], _ => rfl)
  have D_may_call := dfm s KX G "may_call" 25 13 13 ["web", "standing", "goal"] rfl rfl (fun _ _ _ _ _ _ us hl => match us, hl with | [_, _, _], _ => rfl)
  have D_fits := dfm s KX G "fits" 26 14 14 ["web", "standing", "goal"] rfl rfl (fun _ _ _ _ _ _ us hl => match us, hl with | [_, _, _], _ => rfl)
  have D_need_way := dfm s KX G "need_way" 27 15 15 ["web", "standing", "goal"] rfl rfl (fun _ _ _ _ _ _ us hl => match us, hl with | [_, _, _], _ => rfl)
  have D_leads := dfm s KX G "leads" 28 16 16 ["web", "standing", "goal", "people"] rfl rfl (fun _ _ _ _ _ _ us hl => match us, hl with | [_, _, _, _], _ => rfl)
  have D_telling_in := dfm s KX G "telling_in" 29 17 17 ["web", "standing", "goal"] rfl rfl (fun _ _ _ _ _ _ us hl => match us, hl with | [_, _, _], _ => rfl)
  have D_reached_from := dfm s KX G "reached_from" 30 18 18 ["web", "standing"] rfl rfl (fun _ _ _ _ _ _ us hl => match us, hl with | [_, _], _ => rfl)
  have D_ends_in := dfm s KX G "ends_in" 32 19 19 ["web", "standing"] rfl rfl (fun _ _ _ _ _ _ us hl => match us, hl with | [_, _], _ => rfl)
  have D_need_weights := dfm s KX G "need_weights" 34 20 20 ["web", "weights"] rfl rfl (fun _ _ _ _ _ _ us hl => match us, hl with | [_, _], _ => rfl)
  have D_cheapest_telling := dfm s KX G "cheapest_telling" 35 21 21 ["web", "standing", "goal", "weights"] rfl rfl (fun _ _ _ _ _ _ us hl => match us, hl with | [_, _, _, _], _ => rfl)
  have D_worth := dfm s KX G "worth" 36 22 22 ["web", "standing", "weights"] rfl rfl (fun _ _ _ _ _ _ us hl => match us, hl with | [_, _, _], _ => rfl)
  have D_richest_end := dfm s KX G "richest_end" 37 23 23 ["web", "standing", "weights"] rfl rfl (fun _ _ _ _ _ _ us hl => match us, hl with | [_, _, _], _ => rfl)
  have D_poorest_end := dfm s KX G "poorest_end" 38 24 24 ["web", "standing", "weights"] rfl rfl (fun _ _ _ _ _ _ us hl => match us, hl with | [_, _, _], _ => rfl)
  have D_cheapest_end := dfm s KX G "cheapest_end" 39 25 25 ["web", "standing", "weights"] rfl rfl (fun _ _ _ _ _ _ us hl => match us, hl with | [_, _, _], _ => rfl)
  have D_richest_with := dfm s KX G "richest_with" 40 26 26 ["web", "standing", "weights", "person"] rfl rfl (fun _ _ _ _ _ _ us hl => match us, hl with | [_, _, _, _], _ => rfl)
  have D_worths := dfm s KX G "worths" 41 27 27 ["web", "standing", "weights"] rfl rfl (fun _ _ _ _ _ _ us hl => match us, hl with | [_, _, _], _ => rfl)
  have D__law_taken := dfm s KX G "_law_taken" 43 28 28 ["_law_row", "_law_many"] rfl rfl (fun _ _ _ _ _ _ us hl => match us, hl with | [_, _], _ => rfl)
  have D__law_pick := dfm s KX G "_law_pick" 44 29 29 ["_law_row", "_law_kinds"] rfl rfl (fun _ _ _ _ _ _ us hl => match us, hl with | [_, _], _ => rfl)
  have D__law_alike := dfm s KX G "_law_alike" 45 30 30 ["_law_found", "_law_due"] rfl rfl (fun _ _ _ _ _ _ us hl => match us, hl with | [_, _], _ => rfl)
  have D__law_by := dfm s KX G "_law_by" 46 31 31 ["_law_many", "_law_couples"] rfl rfl (fun _ _ _ _ _ _ us hl => match us, hl with | [_, _], _ => rfl)
  have D__law_web := dfm s KX G "_law_web" 47 32 32 ["_law_row", "_law_most"] rfl rfl (fun _ _ _ _ _ _ us hl => match us, hl with | [_, _], _ => rfl)
  have D__law_sets := dfm s KX G "_law_sets" 48 33 33 ["_law_many"] rfl rfl (fun _ _ _ _ _ _ us hl => match us, hl with | [_], _ => rfl)
  have D__law_up := dfm s KX G "_law_up" 49 34 34 ["_law_row", "_law_web_here"] rfl rfl (fun _ _ _ _ _ _ us hl => match us, hl with | [_, _], _ => rfl)
  have D__law_call := dfm s KX G "_law_call" 50 35 35 ["_law_web_here", "_law_here", "_law_person"] rfl rfl (fun _ _ _ _ _ _ us hl => match us, hl with | [_, _, _], _ => rfl)
  have D__law_done := dfm s KX G "_law_done" 51 36 36 ["_law_web_here", "_law_here", "_law_calls"] rfl rfl (fun _ _ _ _ _ _ us hl => match us, hl with | [_, _, _], _ => rfl)
  have D__law_movers := dfm s KX G "_law_movers" 52 37 37 ["_law_web_here", "_law_here"] rfl rfl (fun _ _ _ _ _ _ us hl => match us, hl with | [_, _], _ => rfl)
  have D__law_search := dfm s KX G "_law_search" 53 38 38 ["_law_web_here", "_law_begin"] rfl rfl (fun _ _ _ _ _ _ us hl => match us, hl with | [_, _], _ => rfl)
  have D__law_ends := dfm s KX G "_law_ends" 54 39 39 ["_law_web_here", "_law_begin"] rfl rfl (fun _ _ _ _ _ _ us hl => match us, hl with | [_, _], _ => rfl)
  have D__law_told := dfm s KX G "_law_told" 55 40 40 ["_law_work"] rfl rfl (fun _ _ _ _ _ _ us hl => match us, hl with | [_], _ => rfl)
  have O_is_integer := ok_is_integer (P := P) (w := w) (base := base) B D_is_integer
  have O_is_in := ok_is_in (P := P) (w := w) (base := base) D_is_in O_is_integer
  have O_is_list := ok_is_list (P := P) (w := w) (base := base) B D_is_list
  have O_is_set := ok_is_set (P := P) (w := w) (base := base) B D_is_set O_is_list O_is_in
  have O_need_web := ok_need_web (P := P) (w := w) (base := base) B (He.int_ok KX G (s.fact 58 (f := .int "MOST_PEOPLE" 7) rfl)) D_need_web O_is_list O_is_in
  have O_need_state := ok_need_state (P := P) (w := w) (base := base) D_need_state O_need_web O_is_set
  have O_need_two := ok_need_two (P := P) (w := w) (base := base) D_need_two O_need_state O_is_set
  have O_need_person := ok_need_person (P := P) (w := w) (base := base) B D_need_person O_is_in
  have O_need_weights := ok_need_weights (P := P) (w := w) (base := base) B D_need_weights O_is_list O_is_in
  have O_taller_in := ok_taller (P := P) (w := w) (base := base) B D_taller_in
  have O_apart_in := ok_apart (P := P) (w := w) (base := base) B D_apart_in
  have O_choices := ok_choices (P := P) (w := w) (base := base) D_choices
  have O_call_in := ok_call_in (P := P) (w := w) (base := base) B D_call_in
  have O_movers_in := ok_movers (P := P) (w := w) (base := base) B D_movers_in
  have O_may_call := ok_may (P := P) (w := w) (base := base) B D_may_call
  have O_fits := ok_fits (P := P) (w := w) (base := base) B D_fits O_may_call O_taller_in
  have O_leads := ok_leads (P := P) (w := w) (base := base) D_leads O_call_in
  have O_telling_in := ok_tell (P := P) (w := w) (base := base) B D_telling_in O_may_call O_choices O_leads
  have O_ends_in := ok_ends (P := P) (w := w) (base := base) B D_ends_in O_apart_in O_choices O_fits
  have O_worth := ok_worth (P := P) (w := w) (base := base) B D_worth O_need_state O_need_weights
  have O_richest_end := ok_rich (P := P) (w := w) (base := base) B D_richest_end O_need_state O_need_weights O_ends_in
  have O_poorest_end := ok_poor (P := P) (w := w) (base := base) B D_poorest_end O_need_state O_need_weights O_ends_in
  have O_cheapest_end := ok_cheapE (P := P) (w := w) (base := base) B D_cheapest_end O_need_state O_need_weights O_ends_in O_telling_in
  have O_richest_with := ok_richW (P := P) (w := w) (base := base) B D_richest_with O_need_state O_need_weights O_ends_in O_need_person
  have O_need_way := ok_need_way (P := P) (w := w) (base := base) N.n D_need_way O_need_two O_fits
  have O_cheapest_telling := ok_cheapT (P := P) (w := w) (base := base) B D_cheapest_telling O_need_two O_need_weights O_need_way O_telling_in
  have O_reached_from := ok_Reached (P := P) (w := w) (base := base) B D_reached_from O_movers_in O_call_in
  have O_worths := ok_worths (P := P) (w := w) (base := base) B D_worths O_need_state O_need_weights O_reached_from
  have O__law_call := ok_lcall (P := P) (w := w) (base := base) B D__law_call
  have O__law_done := ok_ldone (P := P) (w := w) (base := base) D__law_done O__law_call
  have O__law_movers := ok_lmovers (P := P) (w := w) (base := base) D__law_movers O__law_call
  have O__law_sets := ok_lsets (P := P) (w := w) (base := base) B D__law_sets
  have O__law_alike := ok_alike (P := P) (w := w) (base := base) B D__law_alike 2
  have O__law_search := ok_LSearch (P := P) (w := w) (base := base) B D__law_search O__law_movers O__law_call
  have O__law_ends := ok_lends (P := P) (w := w) (base := base) B D__law_ends O__law_search O__law_movers
  have O__law_by := ok_by (P := P) (w := w) (base := base) B D__law_by
  exact ok_law B N TB F hcode D__law_told (fun ρ => ok_web B D__law_web (ok_taken B D__law_taken) O__law_by) (fun ρ => ok_up B D__law_up (ok_taken B D__law_taken)) (fun ρ => ok_taken B D__law_taken) (fun ρ => ok_pick B D__law_pick (ok_taken B D__law_taken)) O__law_search O__law_ends O__law_alike O_worth O_richest_end O_poorest_end O_richest_with O_worths O__law_sets O__law_done O_cheapest_end O_cheapest_telling
theorem law_at {l : PySem.W.OpenLaw} {w : World} {K : PySem.W.Frag} {h : Heap} {mg : Str → Option Value} {fa : Addr} (c : He.SaysX faL fnL [] [("law", none)] exB w h K) (KX : K.In h) (G : h.Ns mainGlobals mg) (hmg : mg ("law" : Str) = some (.ref fa)) : LamX.LawAtS l w K CX0 10 63 "_law_script" mg fa h := by
  have s : He.SaysD faL fnL K := c.t.d
  obtain ⟨fd, F0⟩ := s.def_ 41 (d := dd "law" 56) rfl
  have F : FunD K "law" "law" (defArgs sLaw) (defBody sLaw) (defScope sLaw) [] [] (He.ga K "law") fd := F0
  have ega : fa = He.ga K "law" := by
    have e := hmg.symm.trans (He.glo_ok KX G (s.fact 41 (f := .glo "law") rfl))
    exact Value.ref.inj (Option.some.inj e)
  subst ega
  have hbd := FunD.bindsA (ps := ["_law_script"]) F fun _ _ _ _ _ _ us hl => match us, hl with | [_], _ => rfl
  obtain ⟨oc, od, dV, kV, doc, pm, an, cdv, ct, osl, e, lk, hcd, hD, _⟩ := F.ex
  have hdV : dV = .none := by
    rcases hD with ⟨_, h⟩ | ⟨e', _⟩
    · exact h
    · exact absurd rfl e'
  subst hdV
  subst e
  obtain ⟨cc, hcc⟩ := He.codeIn_ref hcd
  have hco : He.codeOf K ("law", none) = cc := He.codeOf_eq (p := ("law", none)) lk hcc
  have hmem : (("law", none) : He.Defn) ∈ ([("law", none)] : List He.Defn) := List.mem_cons_self
  refine ⟨_, [He.cT K ("law", none)], spLaw K (He.cT K ("law", none)).2, fun p hp => ?_, fun p hp => ?_, fun p hp => ?_, fun s' u => hbd s' [u] rfl, fun H a ns hl _ hT hS => ⟨a, ns, rfl, hS, hT _ List.mem_cons_self, fun _ => rfl⟩, fun base hKb hNs hTB => ?_⟩
  · rw [List.mem_singleton.mp hp]; exact c.empty _ hmem
  · rw [List.mem_singleton.mp hp]; exact c.out _ hmem
  · rw [List.mem_singleton.mp hp]; exact PySem.W.codeHd_of_K KX (c.hd _ hmem)
  · exact all_ok s KX G c.more ⟨⟨oc, od, kV, doc, pm, an, cdv, ct, osl, rfl, lk, hcd⟩, F.kp⟩ (show cdv = .ref (He.codeOf K ("law", none)) by rw [hco]; exact hcc) base (hTB _ List.mem_cons_self)
end TJ
open PySem PySem.W PySem.Calls PyProof.Rows
theorem PySem.Challenge.cw_tallsits_k10_whole_weights_holds : PySem.Challenge.rw_tallsits_k10_whole_weights.Holds := by
  w_on; o_law
  refine HandSHeadRun.head_any (r := OpenLaw.row PySem.Challenge.rw_tallsits_k10_whole_weights) (q := view (OpenLaw.row PySem.Challenge.rw_tallsits_k10_whole_weights).prog [56]) (H := TJ.hk) (ob := TJ.ob) (M := 3000) (loose := TJ.nmL) (d := HandSHeadRun.topDef (OpenLaw.row PySem.Challenge.rw_tallsits_k10_whole_weights).prog 56) (kwd := []) TJ.ob_eq
    (by kernel_rfl) (fun s => by kernel_rfl) TJ.run (by kernel_rfl) (by kernel_rfl) (by kernel_rfl) (by rfl) (by first | assumption | decide +kernel) (by decide +kernel) ⟨rfl, rfl, rfl, rfl, rfl, by decide +kernel⟩ ?hw ?hc
  case hw => w_witness2
  case hc =>
    refine LamX.walk_ofTsE (l := PySem.Challenge.rw_tallsits_k10_whole_weights) (n := 63) (k := 10) (x := "_law_script") (CX := fun _ => L2.CX0) rfl (by decide) (by kernel_rfl) ⟨rfl, by decide, by decide⟩ ?F (fun _ _ _ _ _ z => z)
    intro w mg fa h Y G hmg0
    obtain ⟨K, KX, c⟩ := Y
    have hmg : mg ("law" : PySem.Str) = some (.ref fa) := by
      have e : (HandSHeadRun.topDef (OpenLaw.row PySem.Challenge.rw_tallsits_k10_whole_weights).prog 56).name = ("law" : PySem.Str) := by kernel_rfl
      rw [← e]
      exact hmg0
    exact ⟨K, KX, TJ.law_at c KX G hmg⟩
