import PyProof.Rows.All
import Wide.All
import OpenK.AllK
import Wide.FinOn
import HandS.ForMost
import HandS.Base
import HandS.Call
import HandS.List
import HandS.Comp
import HandS.Ends
import HandS.Evl
import HandS.Deep
import HandS.IsInst
import KE.SortData
import KE.DataMinMax
import KE.KTupSum
import HandS.Words
import HandS.WordsList
import HandS.Iter
import HandS.Zip
import HandS.Star
import HandS.Conv
import KE.KDictKeyed
import HandS.Dict
import KE.GoesEnum
import KE.GoesMore
import HandS.DictComp
import HandS.TupMul
import KE.DatumOrd
import PySem.Challenge.RW_mexrooms_k74_whole_costs
set_option Elab.async false
set_option linter.all false
set_option maxRecDepth 100000
/-! MxA: data readings. An expression's reading told by data (PyData): tD; the rules over it. -/
namespace Mx
open PySem PySem.Spec PyProof.Rows L2

abbrev Ex := Evl.Ex
abbrev dN (n : Nat) : PyData := .int (n : Int)
abbrev dL (ns : List Nat) : PyData := .tuple (ns.map dN)
section
variable {K : PySem.W.Frag} {H H' : Hp}
/-! ### data carried from heap to heap -/
mutual
def noL : PyData → Bool
  | .list _ => false
  | .dict _ => false
  | .tuple ds => noLs ds
  | .none => true
  | .bool _ => true
  | .int _ => true
  | .str _ => true
def noLs : List PyData → Bool
  | [] => true
  | d :: ds => noL d && noLs ds
end
mutual
theorem dp_of (hL : ∀ a xs, SqL K H a xs → SqL K H' a xs) (hT : ∀ a xs, SqT K H a xs → SqT K H' a xs) : ∀ (d : PyData) (v : V), Dp K H v d → Dp K H' v d
  | .none, _, h => by cases h; exact .non
  | .bool b, _, h => by cases h; exact .bl b
  | .int i, _, h => by cases h; exact .int i
  | .str x, _, h => by cases h; exact .str x
  | .list ds, _, h => by
    cases h with
    | lst hs ha => exact .lst (hL _ _ hs) (dps_of hL hT ds _ ha)
  | .tuple ds, _, h => by
    cases h with
    | tup hs ha => exact .tup (hT _ _ hs) (dps_of hL hT ds _ ha)
  | .dict _, _, h => by cases h
theorem dps_of (hL : ∀ a xs, SqL K H a xs → SqL K H' a xs) (hT : ∀ a xs, SqT K H a xs → SqT K H' a xs) : ∀ (ds : List PyData) (vs : List V), DpAll K H vs ds → DpAll K H' vs ds
  | [], _, h => by cases h; exact .nil
  | d :: ds, _, h => by
    cases h with
    | cons h1 h2 => exact .cons (dp_of hL hT d _ h1) (dps_of hL hT ds _ h2)
end
mutual
theorem dp_td (hT : ∀ a xs, SqT K H a xs → SqT K H' a xs) : ∀ (d : PyData) (v : V), noL d = true → Dp K H v d → Dp K H' v d
  | .none, _, _, h => by cases h; exact .non
  | .bool b, _, _, h => by cases h; exact .bl b
  | .int i, _, _, h => by cases h; exact .int i
  | .str x, _, _, h => by cases h; exact .str x
  | .list ds, _, n, h => by simp [noL] at n
  | .tuple ds, _, n, h => by
    cases h with
    | tup hs ha => exact .tup (hT _ _ hs) (dps_td hT ds _ (by simpa [noL] using n) ha)
  | .dict _, _, _, h => by cases h
theorem dps_td (hT : ∀ a xs, SqT K H a xs → SqT K H' a xs) : ∀ (ds : List PyData) (vs : List V), noLs ds = true → DpAll K H vs ds → DpAll K H' vs ds
  | [], _, _, h => by cases h; exact .nil
  | d :: ds, _, n, h => by
    cases h with
    | cons h1 h2 =>
      simp [noLs] at n
      exact .cons (dp_td hT d _ n.1 h1) (dps_td hT ds _ n.2 h2)
end
theorem dp_ex (e : Ex H H') {d : PyData} {v : V} (h : Dp K H v d) : Dp K H' v d := dp_of (fun _ _ => Evl.ex_l e) (fun _ _ => Evl.ex_t e) d v h
theorem dps_ex (e : Ex H H') {ds : List PyData} {vs : List V} (h : DpAll K H vs ds) : DpAll K H' vs ds := dps_of (fun _ _ => Evl.ex_l e) (fun _ _ => Evl.ex_t e) ds vs h
/-- tuples stay -/
def ExT (K : PySem.W.Frag) (H H' : Hp) : Prop := ∀ a xs, SqT K H a xs → SqT K H' a xs
theorem ExT.refl : ExT K H H := fun _ _ h => h
theorem ExT.trans {H1 : Hp} (a : ExT K H H1) (b : ExT K H1 H') : ExT K H H' := fun x y h => b x y (a x y h)
theorem Ex.t (e : Ex H H') : ExT K H H' := fun _ _ => Evl.ex_t e
/-- all but what stands at d is kept -/
def ExB (d : Addr) (H H' : Hp) : Prop := ∀ b o, b ≠ d → H b = some o → H' b = some o
theorem ExB.refl {d : Addr} : ExB d H H := fun _ _ _ h => h
theorem ExB.trans {d : Addr} {H1 : Hp} (a : ExB d H H1) (b : ExB d H1 H') : ExB d H H' := fun x y n h => b x y n (a x y n h)
theorem ExB.of {d : Addr} (e : Ex H H') : ExB d H H' := fun b o _ h => e b o h
theorem ExB.upd {d : Addr} {o : HO} : ExB d H (upd H d o) := fun b u n h => by rw [upd_ne n]; exact h
/-- no list, no tuple -/
def NotSeq : HO → Prop
  | .lst _ => False
  | .tup _ => False
  | .frz _ _ => False
  | _ => True
theorem rd_exb {d a : Addr} {u o : HO} (hd : H d = some u) (hn : NotSeq u) (e : ExB d H H') (ho : o = .lst xs ∨ o = .tup xs) (h : Rd H a o) : Rd H' a o := by
  have ne : a ≠ d := by
    rintro rfl
    rcases h with h | ⟨ob, h⟩
    · rw [hd] at h
      cases h
      rcases ho with rfl | rfl <;> exact hn
    · rw [hd] at h
      cases h
      exact hn
  rcases h with h | ⟨ob, h⟩
  · exact .inl (e _ _ ne h)
  · exact .inr ⟨ob, e _ _ ne h⟩
theorem dp_exb {d : Addr} {u : HO} (hd : H d = some u) (hn : NotSeq u) (e : ExB d H H') {x : PyData} {v : V} (h : Dp K H v x) : Dp K H' v x :=
  dp_of (fun a xs q => q.elim (fun q => .inl (rd_exb hd hn e (.inl rfl) q)) .inr) (fun a xs q => q.elim (fun q => .inl (rd_exb hd hn e (.inr rfl) q)) .inr) x v h
theorem ext_upd {a : Addr} {ys zs : List V} (h : H a = some (.lst ys)) : ExT K H (upd H a (.lst zs)) := fun b xs q => by
  rcases q with (q | ⟨o, q⟩) | q
  · refine .inl (.inl ?_)
    rw [upd_ne (ne_of q h (by intro e; cases e))]
    exact q
  · refine .inl (.inr ⟨o, ?_⟩)
    rw [upd_ne (ne_of q h (by intro e; cases e))]
    exact q
  · exact .inr q
/-! inversions -/
theorem dp_int {v : V} {i : Int} (h : Dp K H v (.int i)) : v = .int i := by cases h; rfl
theorem dp_bool {v : V} {b : Bool} (h : Dp K H v (.bool b)) : v = .bl b := by cases h; rfl
theorem dp_none {v : V} (h : Dp K H v .none) : v = .non := by cases h; rfl
theorem dp_list {v : V} {ds : List PyData} (h : Dp K H v (.list ds)) : ∃ a xs, v = .ref a ∧ SqL K H a xs ∧ DpAll K H xs ds := by
  cases h with
  | lst hs ha => exact ⟨_, _, rfl, hs, ha⟩
theorem dp_tuple {v : V} {ds : List PyData} (h : Dp K H v (.tuple ds)) : ∃ a xs, v = .ref a ∧ SqT K H a xs ∧ DpAll K H xs ds := by
  cases h with
  | tup hs ha => exact ⟨_, _, rfl, hs, ha⟩
theorem dps_nil {vs : List V} (h : DpAll K H vs []) : vs = [] := by cases h; rfl
theorem dps_cons {vs : List V} {d : PyData} {ds : List PyData} (h : DpAll K H vs (d :: ds)) : ∃ v r, vs = v :: r ∧ Dp K H v d ∧ DpAll K H r ds := by
  cases h with
  | cons h1 h2 => exact ⟨_, _, rfl, h1, h2⟩
theorem dps_len : ∀ {vs : List V} {ds : List PyData}, DpAll K H vs ds → vs.length = ds.length
  | _, [], h => by cases h; rfl
  | _, d :: ds, h => by
    cases h with
    | cons h1 h2 => simp [dps_len h2]
theorem dps_get : ∀ {vs : List V} {ds : List PyData} {i : Nat} {d : PyData}, DpAll K H vs ds → ds[i]? = some d → ∃ v, vs[i]? = some v ∧ Dp K H v d
  | _, [], _, _, h, e => by simp at e
  | _, x :: ds, 0, d, h, e => by
    cases h with
    | cons h1 h2 =>
      simp at e
      subst e
      exact ⟨_, rfl, h1⟩
  | _, x :: ds, i + 1, d, h, e => by
    cases h with
    | cons h1 h2 =>
      obtain ⟨v, hv, q⟩ := dps_get (i := i) (d := d) h2 (by simpa using e)
      exact ⟨v, by simpa using hv, q⟩
theorem dps_get' : ∀ {vs : List V} {ds : List PyData} {i : Nat} {v : V}, DpAll K H vs ds → vs[i]? = some v → ∃ d, ds[i]? = some d ∧ Dp K H v d
  | _, [], _, _, h, e => by cases h; simp at e
  | _, x :: ds, 0, v, h, e => by
    cases h with
    | cons h1 h2 =>
      simp at e
      subst e
      exact ⟨_, rfl, h1⟩
  | _, x :: ds, i + 1, v, h, e => by
    cases h with
    | cons h1 h2 =>
      obtain ⟨d, hd, q⟩ := dps_get' (i := i) (v := v) h2 (by simpa using e)
      exact ⟨d, by simpa using hd, q⟩
theorem dps_app : ∀ {vs us : List V} {ds es : List PyData}, DpAll K H vs ds → DpAll K H us es → DpAll K H (vs ++ us) (ds ++ es)
  | _, _, [], _, h, q => by cases h; exact q
  | _, _, d :: ds, _, h, q => by
    cases h with
    | cons h1 h2 => exact .cons h1 (dps_app h2 q)
theorem dps_one {v : V} {d : PyData} (h : Dp K H v d) : DpAll K H [v] [d] := .cons h .nil
theorem dps_set : ∀ {vs : List V} {ds : List PyData} {i : Nat} {v : V} {d : PyData}, DpAll K H vs ds → Dp K H v d → DpAll K H (vs.set i v) (ds.set i d)
  | _, [], _, _, _, h, q => by cases h; exact .nil
  | _, x :: ds, 0, _, _, h, q => by
    cases h with
    | cons h1 h2 => exact .cons q h2
  | _, x :: ds, i + 1, _, _, h, q => by
    cases h with
    | cons h1 h2 => exact .cons h1 (dps_set h2 q)
theorem dps_ints : ∀ {vs : List V} {ns : List Int}, DpAll K H vs (ns.map PyData.int) → vs = ns.map V.int
  | _, [], h => by cases h; rfl
  | _, n :: ns, h => by
    cases h with
    | cons h1 h2 => rw [dp_int h1, dps_ints h2]; rfl
theorem dps_of_ints : ∀ (ns : List Int), DpAll K H (ns.map V.int) (ns.map PyData.int)
  | [] => .nil
  | n :: ns => .cons (.int n) (dps_of_ints ns)
theorem dps_bools : ∀ {vs : List V} {ns : List Bool}, DpAll K H vs (ns.map PyData.bool) → vs = ns.map V.bl
  | _, [], h => by cases h; rfl
  | _, n :: ns, h => by
    cases h with
    | cons h1 h2 => rw [dp_bool h1, dps_bools h2]; rfl
theorem dp_lst_at {a : Addr} {xs : List V} {ds : List PyData} (h : H a = some (.lst xs)) (q : DpAll K H xs ds) : Dp K H (.ref a) (.list ds) := .lst (.inl (.inl h)) q
theorem dp_tup_at {a : Addr} {xs : List V} {ds : List PyData} (h : H a = some (.tup xs)) (q : DpAll K H xs ds) : Dp K H (.ref a) (.tuple ds) := .tup (.inl (.inl h)) q
end

/-! ### slots by data -/
abbrev DSt := List (Option PyData)
def SD (K : PySem.W.Frag) (H : Hp) (σ : L2.St) (ρ : DSt) : Prop := ∀ (i : Nat) (d : PyData), ρ[i]? = some (some d) → ∃ v, σ[i]? = some (some v) ∧ Dp K H v d
section
variable {K : PySem.W.Frag} {H H' : Hp} {σ : L2.St} {ρ : DSt}
theorem sd_nil : SD K H σ [] := fun i d h => by simp at h
theorem sd_cons {v : V} {d : PyData} (h : Dp K H v d) (r : SD K H σ ρ) : SD K H (some v :: σ) (some d :: ρ) := fun i e q => by
  cases i with
  | zero =>
    simp at q
    subst q
    exact ⟨v, rfl, h⟩
  | succ i =>
    obtain ⟨u, h1, h2⟩ := r i e (by simpa using q)
    exact ⟨u, by simpa using h1, h2⟩
theorem sd_skip {x : Option V} (r : SD K H σ ρ) : SD K H (x :: σ) (none :: ρ) := fun i e q => by
  cases i with
  | zero => simp at q
  | succ i =>
    obtain ⟨u, h1, h2⟩ := r i e (by simpa using q)
    exact ⟨u, by simpa using h1, h2⟩
theorem SD.of (r : SD K H σ ρ) (h : ∀ d v, Dp K H v d → Dp K H' v d) : SD K H' σ ρ := fun i d q => by
  obtain ⟨v, h1, h2⟩ := r i d q
  exact ⟨v, h1, h d v h2⟩
theorem SD.ex (r : SD K H σ ρ) (e : Ex H H') : SD K H' σ ρ := r.of fun _ _ => dp_ex e
theorem SD.set {i : Nat} {v : V} {d : PyData} (r : SD K H σ ρ) (hi : i < σ.length) (h : Dp K H v d) : SD K H (σ.set i (some v)) (ρ.set i (some d)) := fun j e q => by
  by_cases hj : i = j
  · subst hj
    by_cases hl : i < ρ.length
    · rw [List.getElem?_set_self hl] at q
      cases q
      exact ⟨v, by rw [List.getElem?_set_self hi], h⟩
    · rw [List.getElem?_eq_none (by simpa using hl)] at q
      cases q
  · rw [List.getElem?_set_ne hj] at q
    obtain ⟨u, h1, h2⟩ := r j e q
    exact ⟨u, by rw [List.getElem?_set_ne hj]; exact h1, h2⟩
/-- the data of a block's own names forgotten -/
def wipeD (ρ : DSt) : List Nat → DSt
  | [] => ρ
  | v :: vs => (wipeD ρ vs).set v none
theorem SD.wipe (r : SD K H σ ρ) : ∀ (vs : List Nat), SD K H (wipe σ vs) (wipeD ρ vs)
  | [] => r
  | w :: vs => fun j e q => by
    unfold wipeD at q
    unfold L2.wipe
    by_cases hj : w = j
    · subst hj
      by_cases hl : w < (wipeD ρ vs).length
      · rw [List.getElem?_set_self hl] at q
        cases q
      · rw [List.getElem?_eq_none (by simpa using hl)] at q
        cases q
    · rw [List.getElem?_set_ne hj] at q ⊢
      exact r.wipe vs j e q
end

/-! ### readings by data -/
def tD (K : PySem.W.Frag) (f : DSt → PyData → Prop) : TE := fun σ H Q => ∃ ρ d, SD K H σ ρ ∧ f ρ d ∧ ∀ v H', Ex H H' → Dp K H' v d → Q v H'
def tDT (K : PySem.W.Frag) (f : DSt → Bool → Prop) : TT := fun σ H Q => ∃ ρ b, SD K H σ ρ ∧ f ρ b ∧ ∀ H', Ex H H' → Q b H'
def tDA (K : PySem.W.Frag) (f : DSt → List PyData → Prop) : TA := fun σ H Q => ∃ ρ ds, SD K H σ ρ ∧ f ρ ds ∧ ∀ vs H', Ex H H' → DpAll K H' vs ds → Q vs H'
def rD1 (K : PySem.W.Frag) (g : PyData → PyData → Prop) : V → Hp → VK → Prop := fun x H Q => ∃ dx d, Dp K H x dx ∧ g dx d ∧ ∀ v H', Ex H H' → Dp K H' v d → Q v H'
def rD2 (K : PySem.W.Frag) (g : PyData → PyData → PyData → Prop) : R2 := fun x y H Q => ∃ dx dy d, Dp K H x dx ∧ Dp K H y dy ∧ g dx dy d ∧ ∀ v H', Ex H H' → Dp K H' v d → Q v H'
def rDN (K : PySem.W.Frag) (g : List PyData → PyData → Prop) : List V → Hp → VK → Prop := fun vs H Q => ∃ ds d, DpAll K H vs ds ∧ g ds d ∧ ∀ v H', Ex H H' → Dp K H' v d → Q v H'
/-- a def that only reads: from the arguments' data to the answer's -/
def spD (K : PySem.W.Frag) (g : List PyData → PyData → Prop) : Sp := fun vs H Q _ => rDN K g vs H Q

theorem pe_imp {X : Cx} {e : Expr} {t t' : TE} (h : PE X e t) (i : ∀ σ H Q, t' σ H Q → t σ H Q) : PE X e t' := ⟨fun pins s σ H Q I q => h.run pins s σ H Q I (i _ _ _ q)⟩
theorem pt_imp {X : Cx} {e : Expr} {t t' : TT} (h : PT X e t) (i : ∀ σ H Q, t' σ H Q → t σ H Q) : PT X e t' := ⟨fun pins s σ H Q I q => h.run pins s σ H Q I (i _ _ _ q)⟩
theorem pa_imp {X : Cx} {e : List Expr} {t t' : TA} (h : PA X e t) (i : ∀ σ H Q, t' σ H Q → t σ H Q) : PA X e t' := ⟨fun pos pins s σ H Q I q => h.run pos pins s σ H Q I (i _ _ _ q)⟩
theorem opR_imp {X : Cx} {f : Value → Value → Sem Value} {r r' : R2} (h : OpR X f r) (i : ∀ x y H Q, r' x y H Q → r x y H Q) : OpR X f r' := fun pins s σ H x y v u Q I rx ry q => h pins s σ H x y v u Q I rx ry (i _ _ _ _ q)
theorem callR_imp {X : Cx} {f : Value} {r r' : List V → Hp → VK → Prop} (h : CallR X f r) (i : ∀ xs H Q, r' xs H Q → r xs H Q) : CallR X f r' := fun pins s σ H xs us Q I rx q => h pins s σ H xs us Q I rx (i _ _ _ q)
theorem ixR_imp {X : Cx} {r r' : R2} (h : IxR X r) (i : ∀ x y H Q, r' x y H Q → r x y H Q) : IxR X r' := fun value slice pins s σ H x y v u Q I rx ry q hs => h value slice pins s σ H x y v u Q I rx ry (i _ _ _ _ q) hs

section
variable {X : Cx} {a b c e : Expr} {es : List Expr} {fa fb fc : DSt → PyData → Prop} {ft fu : DSt → Bool → Prop} {fs : DSt → List PyData → Prop} {g : PyData → PyData → PyData → Prop} {pos : Pos}

/-! names, constants -/
def fV (i : Nat) : DSt → PyData → Prop := fun ρ d => ρ[i]? = some (some d)
def fC (x : PyData) : DSt → PyData → Prop := fun _ d => d = x
theorem dv (i : Nat) {x : Str} {pos : Pos} (hN : X.N[i]? = some x := by rfl) (hv : Vis X.env.scope x := by first | exact Or.inl rfl | exact Or.inr (Or.inl rfl) | exact Or.inr (Or.inr rfl)) (hd : (x == ("__debug__" : Str)) = false := by decide)
    (hcd : (x == ("__classdict__" : Str)) = false := by decide) : PE X (.Name x pos) (tD X.K (fV i)) :=
  pe_imp (pe_var hN hv hd hcd) fun σ H Q ⟨ρ, d, hs, hf, q⟩ => by
    obtain ⟨v, h1, h2⟩ := hs i d hf
    exact ⟨v, h1, q v H (Evl.Ex.refl H) h2⟩
theorem de_c {t : TE} {v : V} {d : PyData} (h : PE X e (tC v)) (hd : ∀ H, Dp X.K H v d) : PE X e (tD X.K (fC d)) := pe_imp h fun σ H Q ⟨ρ, d', hs, hf, q⟩ => by
  cases hf
  exact q v H (Evl.Ex.refl H) (hd H)
theorem de_int {i j pos} : PE X (.Constant (.int i) j pos) (tD X.K (fC (.int i))) := de_c (t := tC (.int i)) pe_int fun _ => .int i
theorem de_bool {i j pos} : PE X (.Constant (.bool i) j pos) (tD X.K (fC (.bool i))) := de_c (t := tC (.bl i)) pe_bl fun _ => .bl i
theorem de_none {j pos} : PE X (.Constant .none j pos) (tD X.K (fC .none)) := de_c (t := tC .non) pe_non fun _ => .non
/-- a module's int -/
theorem de_glob {x : Str} {i : Int} {u : Value} {pos : Pos} (hg : Gl X x) (hm : X.mg x = some u) (r : RelV (.int i) u) (hd : (x == ("__debug__" : Str)) = false := by decide) : PE X (.Name x pos) (tD X.K (fC (.int i))) :=
  de_c (t := tC (.int i)) (pe_glob hg hm r hd) fun _ => .int i

/-! two-place operations -/
def f2 (g : PyData → PyData → PyData → Prop) (fa fb : DSt → PyData → Prop) : DSt → PyData → Prop := fun ρ d => ∃ dx dy, fa ρ dx ∧ fb ρ dy ∧ g dx dy d
theorem tOp_D {r : R2} (hr : ∀ x y H Q, rD2 X.K g x y H Q → r x y H Q) (σ : L2.St) (H : Hp) (Q : VK) (h : tD X.K (f2 g fa fb) σ H Q) : tOp r (tD X.K fa) (tD X.K fb) σ H Q := by
  obtain ⟨ρ, d, hs, ⟨dx, dy, ha, hb, hg⟩, q⟩ := h
  exact ⟨ρ, dx, hs, ha, fun x H1 e1 hx => ⟨ρ, dy, hs.ex e1, hb, fun y H2 e2 hy => hr _ _ _ _ ⟨dx, dy, d, dp_ex e2 hx, hy, hg, fun v H3 e3 hv => q v H3 ((e1.trans e2).trans e3) hv⟩⟩⟩
theorem de_op {op : Operator} (ho : OpR X (binaryOp op) (rD2 X.K g)) (ha : PE X a (tD X.K fa)) (hb : PE X b (tD X.K fb)) : PE X (.BinOp a op b pos) (tD X.K (f2 g fa fb)) :=
  pe_imp (pe_op ho ha hb) (tOp_D fun _ _ _ _ h => h)
theorem de_cmp {op : CmpOp} (ho : OpR X (compareOp op) (rD2 X.K g)) (ha : PE X a (tD X.K fa)) (hb : PE X b (tD X.K fb)) (hm : behindInMarks op b = false) : PE X (.Compare a [op] [b] pos) (tD X.K (f2 g fa fb)) :=
  pe_imp (pe_cmpR ho ha hb hm) (tOp_D fun _ _ _ _ h => h)
def fB (f : DSt → PyData → Prop) : DSt → Bool → Prop := fun ρ b => f ρ (.bool b)
theorem dt_cmp {op : CmpOp} (ho : OpR X (compareOp op) (rD2 X.K g)) (ha : PE X a (tD X.K fa)) (hb : PE X b (tD X.K fb)) (hm : behindInMarks op b = false) : PT X (.Compare a [op] [b] pos) (tDT X.K (fB (f2 g fa fb))) :=
  pt_imp (pt_cmpR ho ha hb hm) fun σ H Q ⟨ρ, b, hs, hf, q⟩ => by
    refine tOp_D (fun _ _ _ _ h => h) σ H _ ⟨ρ, _, hs, hf, fun v H1 e1 hv => ?_⟩
    rw [dp_bool hv]
    exact ⟨b, rfl, q H1 e1⟩
theorem de_ix (hr : IxR X (rD2 X.K g)) (ha : PE X a (tD X.K fa)) (hb : PE X b (tD X.K fb)) (hs : PlainIx b := by exact fun _ _ => rfl) : PE X (.Subscript a b pos) (tD X.K (f2 g fa fb)) :=
  pe_imp (pe_ix hr ha hb hs) (tOp_D fun _ _ _ _ h => h)
/-- a truth told by data, as a test -/
theorem dt_val {e : Expr} {f : DSt → PyData → Prop} (h : PE X e (tD X.K f)) (he : ∀ whole, isTrue e X.env whole = (do let v ← whole; standAt e.pos; holding [v] (truthy v)) := by intro _; rfl) : PT X e (tDT X.K (fB f)) :=
  pt_imp (pt_val h he) fun σ H Q ⟨ρ, b, hs, hf, q⟩ => ⟨ρ, _, hs, hf, fun v H1 e1 hv => by
    rw [dp_bool hv]
    exact ⟨b, rfl, q H1 e1⟩⟩

/-! and, or, not -/
def fAnd (fa fb : DSt → Bool → Prop) : DSt → Bool → Prop := fun ρ b => ∃ c, fa ρ c ∧ match c with
  | true => fb ρ b
  | false => b = false
def fOr (fa fb : DSt → Bool → Prop) : DSt → Bool → Prop := fun ρ b => ∃ c, fa ρ c ∧ match c with
  | false => fb ρ b
  | true => b = true
def fNot (fa : DSt → Bool → Prop) : DSt → Bool → Prop := fun ρ b => ∃ c, fa ρ c ∧ b = !c
theorem tAnd_D {tb : TT} (hb : ∀ σ H Q, tDT X.K fu σ H Q → tb σ H Q) (σ : L2.St) (H : Hp) (Q : Bool → Hp → Prop) (h : tDT X.K (fAnd ft fu) σ H Q) : tAnd (tDT X.K ft) tb σ H Q := by
  obtain ⟨ρ, b, hs, ⟨c, h1, h2⟩, q⟩ := h
  refine ⟨ρ, c, hs, h1, fun H1 e1 => ?_⟩
  cases c with
  | true => exact iteT' (hb _ _ _ ⟨ρ, b, hs.ex e1, h2, fun H2 e2 => q H2 (e1.trans e2)⟩)
  | false =>
    have h2 : b = false := h2
    subst h2
    exact iteF' (q H1 e1)
where
  iteT' {A B : Prop} (h : A) : if true = true then A else B := by rw [if_pos rfl]; exact h
  iteF' {A B : Prop} (h : B) : if false = true then A else B := by rw [if_neg Bool.false_ne_true]; exact h
theorem tOr_D {tb : TT} (hb : ∀ σ H Q, tDT X.K fu σ H Q → tb σ H Q) (σ : L2.St) (H : Hp) (Q : Bool → Hp → Prop) (h : tDT X.K (fOr ft fu) σ H Q) : tOr (tDT X.K ft) tb σ H Q := by
  obtain ⟨ρ, b, hs, ⟨c, h1, h2⟩, q⟩ := h
  refine ⟨ρ, c, hs, h1, fun H1 e1 => ?_⟩
  cases c with
  | false =>
    show if false = true then _ else _
    rw [if_neg Bool.false_ne_true]
    exact hb _ _ _ ⟨ρ, b, hs.ex e1, h2, fun H2 e2 => q H2 (e1.trans e2)⟩
  | true =>
    have h2 : b = true := h2
    subst h2
    show if true = true then _ else _
    rw [if_pos rfl]
    exact q H1 e1
theorem dw_and1 (ha : PT X a (tDT X.K ft)) : PW X (.BoolOp .And [a] pos) (tDT X.K ft) := pw_and1 ha
theorem dw_or1 (ha : PT X a (tDT X.K ft)) : PW X (.BoolOp .Or [a] pos) (tDT X.K ft) := pw_or1 ha
theorem pw_imp {t t' : TT} (h : PW X e t) (i : ∀ σ H Q, t' σ H Q → t σ H Q) : PW X e t' := ⟨fun wh pins s σ H Q I q => h.run wh pins s σ H Q I (i _ _ _ q)⟩
theorem dw_and {rest : List Expr} (ha : PT X a (tDT X.K ft)) (hb : PW X (.BoolOp .And (b :: rest) pos) (tDT X.K fu)) : PW X (.BoolOp .And (a :: b :: rest) pos) (tDT X.K (fAnd ft fu)) := pw_imp (pw_and ha hb) (tAnd_D fun _ _ _ h => h)
theorem dw_or {rest : List Expr} (ha : PT X a (tDT X.K ft)) (hb : PW X (.BoolOp .Or (b :: rest) pos) (tDT X.K fu)) : PW X (.BoolOp .Or (a :: b :: rest) pos) (tDT X.K (fOr ft fu)) := pw_imp (pw_or ha hb) (tOr_D fun _ _ _ h => h)
theorem dt_not (ha : PT X a (tDT X.K ft)) : PT X (.UnaryOp .Not a pos) (tDT X.K (fNot ft)) := pt_imp (pt_not ha) fun σ H Q ⟨ρ, b, hs, ⟨c, h1, h2⟩, q⟩ => ⟨ρ, c, hs, h1, fun H1 e1 => by
  subst h2
  exact q H1 e1⟩
/-- .. as values -/
def fAndV (fa fb : DSt → PyData → Prop) : DSt → PyData → Prop := fun ρ d => ∃ c, fa ρ (.bool c) ∧ match c with
  | true => fb ρ d
  | false => d = .bool false
def fOrV (fa fb : DSt → PyData → Prop) : DSt → PyData → Prop := fun ρ d => ∃ c, fa ρ (.bool c) ∧ match c with
  | false => fb ρ d
  | true => d = .bool true
def fNotV (fa : DSt → PyData → Prop) : DSt → PyData → Prop := fun ρ d => ∃ c, fa ρ (.bool c) ∧ d = .bool !c
theorem de_and {rest : List Expr} (ha : PE X a (tD X.K fa)) (hb : PE X (.BoolOp .And (b :: rest) pos) (tD X.K fb)) : PE X (.BoolOp .And (a :: b :: rest) pos) (tD X.K (fAndV fa fb)) := pe_imp (pe_and ha hb) fun σ H Q ⟨ρ, d, hs, ⟨c, h1, h2⟩, q⟩ => ⟨ρ, _, hs, h1, fun v H1 e1 hv => ⟨c, dp_bool hv, by
  cases c with
  | true =>
    rw [if_pos rfl]
    exact ⟨ρ, d, hs.ex e1, h2, fun v H2 e2 hv => q v H2 (e1.trans e2) hv⟩
  | false =>
    have h2 : d = .bool false := h2
    subst h2
    rw [if_neg Bool.false_ne_true]
    exact q _ H1 e1 (.bl false)⟩⟩
theorem de_or {rest : List Expr} (ha : PE X a (tD X.K fa)) (hb : PE X (.BoolOp .Or (b :: rest) pos) (tD X.K fb)) : PE X (.BoolOp .Or (a :: b :: rest) pos) (tD X.K (fOrV fa fb)) := pe_imp (pe_or ha hb) fun σ H Q ⟨ρ, d, hs, ⟨c, h1, h2⟩, q⟩ => ⟨ρ, _, hs, h1, fun v H1 e1 hv => ⟨c, dp_bool hv, by
  cases c with
  | false =>
    rw [if_neg Bool.false_ne_true]
    exact ⟨ρ, d, hs.ex e1, h2, fun v H2 e2 hv => q v H2 (e1.trans e2) hv⟩
  | true =>
    have h2 : d = .bool true := h2
    subst h2
    rw [if_pos rfl]
    exact q _ H1 e1 (.bl true)⟩⟩
theorem de_not (ha : PE X a (tD X.K fa)) : PE X (.UnaryOp .Not a pos) (tD X.K (fNotV fa)) := pe_imp (pe_not ha) fun σ H Q ⟨ρ, d, hs, ⟨c, h1, h2⟩, q⟩ => ⟨ρ, _, hs, h1, fun v H1 e1 hv => ⟨c, dp_bool hv, by
  subst h2
  exact q _ H1 e1 (.bl _)⟩⟩
/-- a if t else b -/
def fIf (ft : DSt → Bool → Prop) (fa fb : DSt → PyData → Prop) : DSt → PyData → Prop := fun ρ d => ∃ c, ft ρ c ∧ match c with
  | true => fa ρ d
  | false => fb ρ d
theorem de_if {t : Expr} (ht : PT X t (tDT X.K ft)) (ha : PE X a (tD X.K fa)) (hb : PE X b (tD X.K fb)) : PE X (.IfExp t a b pos) (tD X.K (fIf ft fa fb)) := pe_imp (pe_ifExp ht ha hb) fun σ H Q ⟨ρ, d, hs, ⟨c, h1, h2⟩, q⟩ => ⟨ρ, c, hs, h1, fun H1 e1 => by
  cases c with
  | true =>
    rw [if_pos rfl]
    exact ⟨ρ, d, hs.ex e1, h2, fun v H2 e2 hv => q v H2 (e1.trans e2) hv⟩
  | false =>
    rw [if_neg Bool.false_ne_true]
    exact ⟨ρ, d, hs.ex e1, h2, fun v H2 e2 hv => q v H2 (e1.trans e2) hv⟩⟩
/-- a <= b <= c -/
def fChain (g g' : PyData → PyData → PyData → Prop) (fa fb fc : DSt → PyData → Prop) : DSt → PyData → Prop := fun ρ d => ∃ dx dy k, fa ρ dx ∧ fb ρ dy ∧ g dx dy (.bool k) ∧ match k with
  | true => ∃ dz, fc ρ dz ∧ g' dy dz d
  | false => d = .bool false
theorem de_chain {op op' : CmpOp} {g' : PyData → PyData → PyData → Prop} (ho : OpR X (compareOp op) (rD2 X.K g)) (ho' : OpR X (compareOp op') (rD2 X.K g')) (ha : PE X a (tD X.K fa)) (hb : PE X b (tD X.K fb)) (hc : PE X c (tD X.K fc))
    (hm : lastMarks [op, op'] [b, c] = false := by with_unfolding_all rfl) : PE X (.Compare a [op, op'] [b, c] pos) (tD X.K (fChain g g' fa fb fc)) :=
  pe_imp (pe_chain ho ho' ha hb hc hm) fun σ H Q ⟨ρ, d, hs, ⟨dx, dy, k, h1, h2, h3, h4⟩, q⟩ =>
    ⟨ρ, dx, hs, h1, fun x H1 e1 hx => ⟨ρ, dy, hs.ex e1, h2, fun y H2 e2 hy => ⟨dx, dy, _, dp_ex e2 hx, hy, h3, fun z H3 e3 hz => ⟨k, dp_bool hz, by
      cases k with
      | true =>
        rw [if_pos rfl]
        obtain ⟨dz, h5, h6⟩ := h4
        exact ⟨ρ, dz, hs.ex ((e1.trans e2).trans e3), h5, fun w H4 e4 hw => ⟨dy, dz, d, dp_ex (e3.trans e4) hy, hw, h6, fun v H5 e5 hv => q v H5 ((((e1.trans e2).trans e3).trans e4).trans e5) hv⟩⟩
      | false =>
        have h4 : d = .bool false := h4
        subst h4
        rw [if_neg Bool.false_ne_true]
        exact q _ H3 ((e1.trans e2).trans e3) (.bl false)⟩⟩⟩⟩

/-! argument lists, displays, calls -/
def fNil : DSt → List PyData → Prop := fun _ ds => ds = []
def fCons (f : DSt → PyData → Prop) (fs : DSt → List PyData → Prop) : DSt → List PyData → Prop := fun ρ ds => ∃ d r, f ρ d ∧ fs ρ r ∧ ds = d :: r
theorem da_nil : PA X [] (tDA X.K fNil) := pa_imp pa_nil fun σ H Q ⟨ρ, ds, hs, hf, q⟩ => by
  cases hf
  exact q [] H (Evl.Ex.refl H) .nil
theorem da_cons (ha : PE X e (tD X.K fa)) (hr : PA X es (tDA X.K fs)) (hs : starEach (e :: es) X.env = (false, eval e X.env) :: starEach es X.env := by rfl) : PA X (e :: es) (tDA X.K (fCons fa fs)) :=
  pa_imp (pa_cons ha hr hs) fun σ H Q ⟨ρ, ds, hs, ⟨d, r, h1, h2, h3⟩, q⟩ => ⟨ρ, d, hs, h1, fun v H1 e1 hv => ⟨ρ, r, hs.ex e1, h2, fun vs H2 e2 hvs => by
    subst h3
    exact q _ H2 (e1.trans e2) (.cons (dp_ex e2 hv) hvs)⟩⟩
def fTup (fs : DSt → List PyData → Prop) : DSt → PyData → Prop := fun ρ d => ∃ ds, fs ρ ds ∧ ds.length ≤ sizeLine ∧ d = .tuple ds
def fLst (fs : DSt → List PyData → Prop) : DSt → PyData → Prop := fun ρ d => ∃ ds, fs ρ ds ∧ ds.length ≤ sizeLine ∧ d = .list ds
theorem de_tup {x1} (h : PA X es (tDA X.K fs)) : PE X (.Tuple es x1 pos) (tD X.K (fTup fs)) := pe_imp (pe_tup h) fun σ H Q ⟨ρ, d, hs, ⟨ds, h1, hz, h2⟩, q⟩ => ⟨ρ, ds, hs, h1, fun vs H1 e1 hvs => ⟨by rw [dps_len hvs]; exact hz, fun p hp => by
  subst h2
  exact q _ _ (e1.trans (Evl.Ex.new hp)) (dp_tup_at upd_same (dps_ex (Evl.Ex.new hp) hvs))⟩⟩
theorem de_lst (h : PA X es (tDA X.K fs)) : PE X (.List es pos) (tD X.K (fLst fs)) := pe_imp (pe_lst h) fun σ H Q ⟨ρ, d, hs, ⟨ds, h1, hz, h2⟩, q⟩ => ⟨ρ, ds, hs, h1, fun vs H1 e1 hvs => ⟨by rw [dps_len hvs]; exact hz, fun p hp => by
  subst h2
  exact q _ _ (e1.trans (Evl.Ex.new hp)) (dp_lst_at upd_same (dps_ex (Evl.Ex.new hp) hvs))⟩⟩
def fCall (g : List PyData → PyData → Prop) (fs : DSt → List PyData → Prop) : DSt → PyData → Prop := fun ρ d => ∃ ds, fs ρ ds ∧ g ds d
theorem tCB_D {g : List PyData → PyData → Prop} (σ : L2.St) (H : Hp) (Q : VK) (h : tD X.K (fCall g fs) σ H Q) : tCB (rDN X.K g) (tDA X.K fs) σ H Q := by
  obtain ⟨ρ, d, hs, ⟨ds, h1, h2⟩, q⟩ := h
  exact ⟨ρ, ds, hs, h1, fun vs H1 e1 hvs => ⟨ds, d, hvs, h2, fun v H2 e2 hv => q v H2 (e1.trans e2) hv⟩⟩
theorem de_bi {g : List PyData → PyData → Prop} {x : Str} {id : String} {p : Pos} (hc : CallR X (.builtin id) (rDN X.K g)) (hg : Gl X x) (hm : X.mg x = none) (hv : bootBuiltins x = some (.builtin id)) (ha : PA X (e :: es) (tDA X.K fs))
    (hn : x ≠ "__name__" := by decide) (hd : (x == ("__debug__" : Str)) = false := by decide) (he : starEach (e :: es) X.env = (false, eval e X.env) :: starEach es X.env := by rfl) (hpl : (backTo pos (starEach es X.env)).any (·.1) = false := by rfl) :
    PE X (.Call (.Name x p) (e :: es) [] pos) (tD X.K (fCall g fs)) := pe_imp (pe_callB hc hg hm hv ha (hn := hn) (hdb := hd) (he := he) (hpl := hpl)) tCB_D
theorem de_ty {g : List PyData → PyData → Prop} {x : Str} {T : String} {p : Pos} (hc : CallR X (.type T) (rDN X.K g)) (hg : Gl X x) (hm : X.mg x = none) (hv : bootBuiltins x = some (.type T)) (ha : PA X (e :: es) (tDA X.K fs))
    (hn : x ≠ "__name__" := by decide) (hd : (x == ("__debug__" : Str)) = false := by decide) (he : starEach (e :: es) X.env = (false, eval e X.env) :: starEach es X.env := by rfl) (hpl : (backTo pos (starEach es X.env)).any (·.1) = false := by rfl) :
    PE X (.Call (.Name x p) (e :: es) [] pos) (tD X.K (fCall g fs)) := pe_imp (pe_callTy hc hg hm hv ha (hn := hn) (hdb := hd) (he := he) (hpl := hpl)) tCB_D
end
end Mx
/-! MxB: the operators and the built-ins by data. -/
namespace Mx
open PySem PySem.Spec PyProof.Rows L2

/-! ### relations -/
def gI (f : Int → Int → Int) : PyData → PyData → PyData → Prop := fun a b d => ∃ i j, a = .int i ∧ b = .int j ∧ d = .int (f i j)
def gIC (C : Int → Int → Prop) (f : Int → Int → Int) : PyData → PyData → PyData → Prop := fun a b d => ∃ i j, a = .int i ∧ b = .int j ∧ C i j ∧ d = .int (f i j)
def gIB (f : Int → Int → Bool) : PyData → PyData → PyData → Prop := fun a b d => ∃ i j, a = .int i ∧ b = .int j ∧ d = .bool (f i j)
def gEq : PyData → PyData → PyData → Prop := fun a b d => SeqAt.shaped a = true ∧ SeqAt.shaped b = true ∧ d = .bool (PyData.eqv a b)
def gNe : PyData → PyData → PyData → Prop := fun a b d => SeqAt.shaped a = true ∧ SeqAt.shaped b = true ∧ d = .bool (!PyData.eqv a b)
def gIn : PyData → PyData → PyData → Prop := fun a b d => ∃ (i : Int) (ns : List Int), a = .int i ∧ (b = .list (ns.map .int) ∨ b = .tuple (ns.map .int)) ∧ d = .bool (decide (i ∈ ns))
def gNotIn : PyData → PyData → PyData → Prop := fun a b d => ∃ (i : Int) (ns : List Int), a = .int i ∧ (b = .list (ns.map .int) ∨ b = .tuple (ns.map .int)) ∧ d = .bool (!decide (i ∈ ns))
def gNotInD : PyData → PyData → PyData → Prop := fun a b d => ∃ (ds : List PyData), b = .list ds ∧ SeqAt.shaped a = true ∧ SeqAt.shaped b = true ∧ d = .bool (!ds.any fun z => PyData.eqv z a)
def gIsN : PyData → PyData → PyData → Prop := fun a b d => b = .none ∧ d = .bool (match a with | .none => true | _ => false)
def gIx : PyData → PyData → PyData → Prop := fun a b d => ∃ (ds : List PyData) (j : Nat), (a = .list ds ∨ a = .tuple ds) ∧ b = .int (j : Int) ∧ ds[j]? = some d
section
variable {X : Cx}
theorem oI {f : Value → Value → Sem Value} {h : Int → Int → Int} (o : OpR X f (rI0 fun i j => .int (h i j))) : OpR X f (rD2 X.K (gI h)) := opR_imp o fun x y H Q ⟨dx, dy, d, hx, hy, ⟨i, j, e1, e2, e3⟩, q⟩ => by
  subst e1 e2 e3
  exact ⟨i, j, dp_int hx, dp_int hy, q _ H (Evl.Ex.refl H) (.int _)⟩
theorem oIC {f : Value → Value → Sem Value} {C : Int → Int → Prop} {h : Int → Int → Int} (o : OpR X f (rI C fun i j => .int (h i j))) : OpR X f (rD2 X.K (gIC C h)) := opR_imp o fun x y H Q ⟨dx, dy, d, hx, hy, ⟨i, j, e1, e2, hc, e3⟩, q⟩ => by
  subst e1 e2 e3
  exact ⟨i, j, dp_int hx, dp_int hy, hc, q _ H (Evl.Ex.refl H) (.int _)⟩
theorem oIB {f : Value → Value → Sem Value} {h : Int → Int → Bool} (o : OpR X f (rI0 fun i j => .bl (h i j))) : OpR X f (rD2 X.K (gIB h)) := opR_imp o fun x y H Q ⟨dx, dy, d, hx, hy, ⟨i, j, e1, e2, e3⟩, q⟩ => by
  subst e1 e2 e3
  exact ⟨i, j, dp_int hx, dp_int hy, q _ H (Evl.Ex.refl H) (.bl _)⟩
theorem od_add : OpR X (binaryOp .Add) (rD2 X.K (gI fun i j => i + j)) := oI op_add
theorem od_sub : OpR X (binaryOp .Sub) (rD2 X.K (gI fun i j => i - j)) := oI op_sub
theorem od_mul : OpR X (binaryOp .Mult) (rD2 X.K (gIC CMul fun i j => i * j)) := oIC op_mul
theorem od_fdiv : OpR X (binaryOp .FloorDiv) (rD2 X.K (gIC CDiv fun i j => i / j)) := oIC op_fdiv
theorem od_mod : OpR X (binaryOp .Mod) (rD2 X.K (gIC (fun _ j => 0 < j) fun i j => i % j)) := oIC op_mod
theorem od_pow : OpR X (binaryOp .Pow) (rD2 X.K (gIC CPow fun i j => i ^ j.toNat)) := oIC op_pow
theorem od_lt : OpR X (compareOp .Lt) (rD2 X.K (gIB fun i j => decide (i < j))) := oIB op_lt
theorem od_le : OpR X (compareOp .LtE) (rD2 X.K (gIB fun i j => decide (i ≤ j))) := oIB op_le
theorem od_gt : OpR X (compareOp .Gt) (rD2 X.K (gIB fun i j => decide (j < i))) := oIB op_gt
theorem od_ge : OpR X (compareOp .GtE) (rD2 X.K (gIB fun i j => decide (j ≤ i))) := oIB op_ge
theorem od_eq (hu : X.A.units + 64 < cLine) : OpR X (compareOp .Eq) (rD2 X.K gEq) := opR_imp (op_eqD hu) fun x y H Q ⟨dx, dy, d, hx, hy, ⟨s1, s2, e⟩, q⟩ => by
  subst e
  exact ⟨dx, dy, hx, hy, s1, s2, q _ H (Evl.Ex.refl H) (.bl _)⟩
theorem od_ne (hu : X.A.units + 64 < cLine) : OpR X (compareOp .NotEq) (rD2 X.K gNe) := opR_imp (op_neD hu) fun x y H Q ⟨dx, dy, d, hx, hy, ⟨s1, s2, e⟩, q⟩ => by
  subst e
  exact ⟨dx, dy, hx, hy, s1, s2, q _ H (Evl.Ex.refl H) (.bl _)⟩
theorem od_notInD (hu : X.A.units + 65 < cLine) : OpR X (compareOp .NotIn) (rD2 X.K gNotInD) := opR_imp (op_notInD hu) fun x y H Q ⟨dx, dy, d, hx, hy, ⟨ds, e1, s1, s2, e⟩, q⟩ => by
  subst e e1
  exact ⟨dx, ds, hx, hy, s1, s2, q _ H (Evl.Ex.refl H) (.bl _)⟩
/-- a >= b of alike data -/
def gGeD : PyData → PyData → PyData → Prop := fun a b d => PySem.W.alike a b = true ∧ a ≠ .none ∧ a.depth < 60 ∧ d = .bool (!PySem.W.dataLt a b)
theorem od_geD (hu : X.A.units + 64 < cLine) : OpR X (compareOp .GtE) (rD2 X.K gGeD) := by
  intro pins s σ H x y v u Q I rx ry h
  obtain ⟨dx, dy, d, hx, hy, ⟨h1, h2, h3, e⟩, q⟩ := h
  subst e
  obtain ⟨as, r1⟩ := Dp.reads I dx x v hx rx
  obtain ⟨bs, r2⟩ := Dp.reads I dy y u hy ry
  exact PySem.W.rcGe_alike dx dy X.A s v u as bs r1 r2 h1 h2 (by omega) X.prog X.w _ _ ⟨.bl _, H, I, rfl, q _ H (Evl.Ex.refl H) (.bl _)⟩
theorem flat_ints : ∀ ns : List Int, (ns.map V.int).all flatV = true
  | [] => rfl
  | n :: ns => by
    rw [List.map_cons, List.all_cons, flat_ints ns]
    rfl
theorem inV_ints (i : Int) : ∀ ns : List Int, inV (.int i) (ns.map V.int) = decide (i ∈ ns)
  | [] => by simp [inV]
  | n :: ns => by
    have ih := inV_ints i ns
    unfold inV at ih ⊢
    rw [List.map_cons, List.any_cons, ih]
    by_cases h : i = n
    · subst h
      simp [eqV]
    · have h' : ¬ n = i := fun e => h e.symm
      simp [eqV, h, h']
theorem seq_ints {K : PySem.W.Frag} {H : Hp} {y : V} {b : PyData} {ns : List Int} (h : b = .list (ns.map .int) ∨ b = .tuple (ns.map .int)) (hy : Dp K H y b) : ∃ p, y = .ref p ∧ (SqL K H p (ns.map V.int) ∨ SqT K H p (ns.map V.int)) := by
  rcases h with rfl | rfl
  · obtain ⟨a, xs, e, hs, ha⟩ := dp_list hy
    rw [dps_ints ha] at hs
    exact ⟨a, e, .inl hs⟩
  · obtain ⟨a, xs, e, hs, ha⟩ := dp_tuple hy
    rw [dps_ints ha] at hs
    exact ⟨a, e, .inr hs⟩
theorem od_in : OpR X (compareOp .In) (rD2 X.K gIn) := opR_imp op_in_seq fun x y H Q ⟨dx, dy, d, hx, hy, ⟨i, ns, e1, e2, e⟩, q⟩ => by
  subst e e1
  obtain ⟨p, ey, hs⟩ := seq_ints e2 hy
  rw [dp_int hx, ey]
  refine ⟨p, ns.map V.int, rfl, hs, rfl, flat_ints ns, ?_⟩
  rw [if_neg Bool.false_ne_true, inV_ints]
  exact q _ H (Evl.Ex.refl H) (.bl _)
theorem od_notIn : OpR X (compareOp .NotIn) (rD2 X.K gNotIn) := opR_imp op_notIn_seq fun x y H Q ⟨dx, dy, d, hx, hy, ⟨i, ns, e1, e2, e⟩, q⟩ => by
  subst e e1
  obtain ⟨p, ey, hs⟩ := seq_ints e2 hy
  rw [dp_int hx, ey]
  refine ⟨p, ns.map V.int, rfl, hs, rfl, flat_ints ns, ?_⟩
  rw [if_pos rfl, inV_ints]
  exact q _ H (Evl.Ex.refl H) (.bl _)
theorem od_isN : OpR X (compareOp .Is) (rD2 X.K gIsN) := opR_imp op_isN fun x y H Q ⟨dx, dy, d, hx, hy, ⟨e1, e⟩, q⟩ => by
  subst e e1
  refine ⟨dp_none hy, q _ H (Evl.Ex.refl H) ?_⟩
  cases hx <;> exact .bl _
theorem id_ix : IxR X (rD2 X.K gIx) := ixR_imp (IxR.or ix_list ix_tup) fun x y H Q ⟨dx, dy, d, hx, hy, ⟨ds, j, e1, e2, e3⟩, q⟩ => by
  subst e2
  rcases e1 with rfl | rfl
  · obtain ⟨a, xs, e, hs, ha⟩ := dp_list hx
    obtain ⟨v, hv, hd⟩ := dps_get ha e3
    exact .inl ⟨a, xs, (j : Int), v, e, dp_int hy, hs, atI_nat hv, q v H (Evl.Ex.refl H) hd⟩
  · obtain ⟨a, xs, e, hs, ha⟩ := dp_tuple hx
    obtain ⟨v, hv, hd⟩ := dps_get ha e3
    exact .inr ⟨a, xs, (j : Int), v, e, dp_int hy, hs, atI_nat hv, q v H (Evl.Ex.refl H) hd⟩

/-! ### built-ins -/
def gLen : List PyData → PyData → Prop := fun ds d => ∃ xs, (ds = [.list xs] ∨ ds = [.tuple xs]) ∧ d = .int (xs.length : Int)
theorem cd_len : CallR X (.builtin "len") (rDN X.K gLen) := callR_imp call_len_seq fun vs H Q ⟨ds, d, hv, ⟨xs, e1, e2⟩, q⟩ => by
  subst e2
  rcases e1 with rfl | rfl
  · obtain ⟨v, r, rfl, h1, h2⟩ := dps_cons hv
    have hn := dps_nil h2
    subst hn
    obtain ⟨a, ys, e, hs, ha⟩ := dp_list h1
    subst e
    refine ⟨a, ys, rfl, .inl hs, ?_⟩
    rw [dps_len ha]
    exact q _ H (Evl.Ex.refl H) (.int _)
  · obtain ⟨v, r, rfl, h1, h2⟩ := dps_cons hv
    have hn := dps_nil h2
    subst hn
    obtain ⟨a, ys, e, hs, ha⟩ := dp_tuple h1
    subst e
    refine ⟨a, ys, rfl, .inr hs, ?_⟩
    rw [dps_len ha]
    exact q _ H (Evl.Ex.refl H) (.int _)
theorem dps1 {K : PySem.W.Frag} {H : Hp} {vs : List V} {d : PyData} (h : DpAll K H vs [d]) : ∃ v, vs = [v] ∧ Dp K H v d := by
  obtain ⟨v, r, rfl, h1, h2⟩ := dps_cons h
  have hn := dps_nil h2
  subst hn
  exact ⟨v, rfl, h1⟩
theorem dps2 {K : PySem.W.Frag} {H : Hp} {vs : List V} {d e : PyData} (h : DpAll K H vs [d, e]) : ∃ v u, vs = [v, u] ∧ Dp K H v d ∧ Dp K H u e := by
  obtain ⟨v, r, rfl, h1, h2⟩ := dps_cons h
  obtain ⟨u, rfl, h3⟩ := dps1 h2
  exact ⟨v, u, rfl, h1, h3⟩
theorem dps3 {K : PySem.W.Frag} {H : Hp} {vs : List V} {d e f : PyData} (h : DpAll K H vs [d, e, f]) : ∃ v u w, vs = [v, u, w] ∧ Dp K H v d ∧ Dp K H u e ∧ Dp K H w f := by
  obtain ⟨v, r, rfl, h1, h2⟩ := dps_cons h
  obtain ⟨u, w, rfl, h3, h4⟩ := dps2 h2
  exact ⟨v, u, w, rfl, h1, h3, h4⟩
def gMin2 : List PyData → PyData → Prop := fun ds d => ∃ i j : Int, ds = [.int i, .int j] ∧ d = .int (if j < i then j else i)
theorem cd_min2 (hc : X.calm = true) : CallR X (.builtin "min") (rDN X.K gMin2) := callR_imp (call_min2 hc) fun vs H Q ⟨ds, d, hv, ⟨i, j, e1, e2⟩, q⟩ => by
  subst e1 e2
  obtain ⟨v, u, rfl, h1, h2⟩ := dps2 hv
  rw [dp_int h1, dp_int h2]
  exact ⟨i, j, rfl, q _ H (Evl.Ex.refl H) (.int _)⟩
def gInt : List PyData → PyData → Prop := fun ds d => ∃ i : Int, ds = [.int i] ∧ d = .int i
theorem cd_int : CallR X (.type "int") (rDN X.K gInt) := callR_imp call_int1 fun vs H Q ⟨ds, d, hv, ⟨i, e1, e2⟩, q⟩ => by
  subst e1 e2
  obtain ⟨v, rfl, h1⟩ := dps1 hv
  rw [dp_int h1]
  exact .inl ⟨i, rfl, q _ H (Evl.Ex.refl H) (.int _)⟩
def gAll : List PyData → PyData → Prop := fun ds d => ∃ bs : List Bool, ds = [.list (bs.map .bool)] ∧ d = .bool (bs.all id)
def gAny : List PyData → PyData → Prop := fun ds d => ∃ bs : List Bool, ds = [.list (bs.map .bool)] ∧ d = .bool (bs.any id)
theorem cd_all (hc : X.calm = true) : CallR X (.builtin "all") (rDN X.K gAll) := callR_imp (cr_all hc) fun vs H Q ⟨ds, d, hv, ⟨bs, e1, e2⟩, q⟩ => by
  subst e1 e2
  obtain ⟨v, rfl, h1⟩ := dps1 hv
  obtain ⟨a, ys, e, hs, ha⟩ := dp_list h1
  subst e
  rw [dps_bools ha] at hs
  exact ⟨a, bs, rfl, hs, q _ H (Evl.Ex.refl H) (.bl _)⟩
theorem cd_any (hc : X.calm = true) : CallR X (.builtin "any") (rDN X.K gAny) := callR_imp (cr_any hc) fun vs H Q ⟨ds, d, hv, ⟨bs, e1, e2⟩, q⟩ => by
  subst e1 e2
  obtain ⟨v, rfl, h1⟩ := dps1 hv
  obtain ⟨a, ys, e, hs, ha⟩ := dp_list h1
  subst e
  rw [dps_bools ha] at hs
  exact ⟨a, bs, rfl, hs, q _ H (Evl.Ex.refl H) (.bl _)⟩
/-- tuple(xs) of a list -/
def gTupOf : List PyData → PyData → Prop := fun ds d => ∃ xs, ds = [.list xs] ∧ d = .tuple xs
theorem cd_tuple : CallR X (.type "tuple") (rDN X.K gTupOf) := callR_imp call_tuple_of fun vs H Q ⟨ds, d, hv, ⟨xs, e1, e2⟩, q⟩ => by
  subst e1 e2
  obtain ⟨v, rfl, h1⟩ := dps1 hv
  obtain ⟨a, ys, e, hs, ha⟩ := dp_list h1
  subst e
  exact ⟨a, ys, rfl, .inl ⟨hs, fun l hl => q _ _ (Evl.Ex.new hl) (dp_tup_at upd_same (dps_ex (Evl.Ex.new hl) ha))⟩⟩
/-- sum of a list, of a tuple of ints -/
def gSum : List PyData → PyData → Prop := fun ds d => ∃ ns : List Int, (ds = [.list (ns.map .int)] ∨ ds = [.tuple (ns.map .int)]) ∧ d = .int ns.sum
def rSumT (K : PySem.W.Frag) : List V → Hp → VK → Prop := fun vs H Q => ∃ (a : Addr) (ns : List Int), vs = [V.ref a] ∧ SqT K H a (ns.map V.int) ∧ Q (.int ns.sum) H
theorem cr_sumT (hc : X.calm = true) : CallR X (.builtin "sum") (rSumT X.K) := by
  intro pins s σ H vs us Q I r h
  obtain ⟨a, ns, rfl, hs, q⟩ := h
  obtain ⟨its, rv, hl, _⟩ := I.tuple hs
  rw [Vals.ref1 r]
  have hi := rv.ints
  obtain ⟨xs, e⟩ := hi.allInts.items
  have hn : numsOf (intItems xs).toList = ns := by rw [← e]; exact hi.numsOf
  rw [nums_intItems] at hn
  have hl' : s.heap.IsTuple a its.toArray := hl
  rw [e] at hl'
  refine PySem.W.ktm_sumG (I.ok.hd hc) hl' fun h' tk t' hk => ?_
  rw [preSum_eq, List.take_of_length_le (by simp), hn]
  exact ⟨.int _, H, I.kept hk, ⟨_, rfl⟩, q⟩
theorem cd_sum (hc : X.calm = true) : CallR X (.builtin "sum") (rDN X.K gSum) := callR_imp (CallR.or (cr_sum hc) (cr_sumT hc)) fun vs H Q ⟨ds, d, hv, ⟨ns, e1, e2⟩, q⟩ => by
  subst e2
  rcases e1 with rfl | rfl
  · obtain ⟨v, rfl, h1⟩ := dps1 hv
    obtain ⟨a, ys, e, hs, ha⟩ := dp_list h1
    subst e
    rw [dps_ints ha] at hs
    exact .inl ⟨a, ns, rfl, hs, q _ H (Evl.Ex.refl H) (.int _)⟩
  · obtain ⟨v, rfl, h1⟩ := dps1 hv
    obtain ⟨a, ys, e, hs, ha⟩ := dp_tuple h1
    subst e
    rw [dps_ints ha] at hs
    exact .inr ⟨a, ns, rfl, hs, q _ H (Evl.Ex.refl H) (.int _)⟩
/-- min of a list of alike data -/
def gMin : List PyData → PyData → Prop := fun ds d => ∃ x xs, ds = [.list (x :: xs)] ∧ PySem.W.AlikeAll (x :: xs) ∧ PyData.depthAll (x :: xs) < 60 ∧ d = PySem.W.minD x xs
theorem cd_min (hc : X.calm = true) (hu : X.A.units + 64 < cLine) : CallR X (.builtin "min") (rDN X.K gMin) := by
  intro pins s σ H vs us Q I r h
  obtain ⟨ds, d, hv, ⟨x, xs, e1, hal, hd, e2⟩, q⟩ := h
  subst e1 e2
  obtain ⟨v, rfl, h1⟩ := dps1 hv
  obtain ⟨a, ys, e, hs, ha⟩ := dp_list h1
  subst e
  obtain ⟨its, rv, hl, _⟩ := I.list hs
  rw [Vals.ref1 r]
  obtain ⟨as, hr⟩ := Dp.readsAll I _ _ _ ha rv
  refine PySem.W.min_list_data (I.ok.hd hc) hl.isList (vs := its.toArray) (by simpa using hr) hal (by omega) fun i u h' tk bs hu' hb hk => ?_
  have hu2 : its[i]? = some u := by simpa using hu'
  have hlt : i < ys.length := by rw [rv.length]; exact (List.getElem?_eq_some_iff.mp hu2).1
  obtain ⟨w, hw, rw'⟩ := rv.get (i := i) (x := ys[i]) (List.getElem?_eq_getElem hlt)
  rw [hu2] at hw
  cases hw
  obtain ⟨di, hdi, hp⟩ := dps_get' ha (List.getElem?_eq_getElem hlt)
  obtain ⟨cs, hrd⟩ := Dp.reads I di _ u hp rw'
  obtain ⟨e, _⟩ := PyProof.Rows.reads_det (fun b o e _ => e) (PyProof.Rows.Reads.keeps hk hrd) hb
  exact ⟨ys[i], H, I.kept hk, rw', q _ H (Evl.Ex.refl H) (by rw [e]; exact hp)⟩
/-- sorted of a list of alike data (no list within) -/
def gSorted : List PyData → PyData → Prop := fun ds d => ∃ xs, ds = [.list xs] ∧ PySem.W.AllAlike xs ∧ PySem.W.Sortable xs ∧ xs.length ≤ sizeLine ∧ (∀ x ∈ xs, x.depth < 60) ∧ d = .list (xs.mergeSort (PySem.W.dataLe false id))
theorem each_vals {K : PySem.W.Frag} {H : Hp} : ∀ {vs : List V} {us : List Value} {ds : List PyData}, Vals vs us → DpAll K H vs ds → PySem.W.EachIs (fun u d => ∃ v, RelV v u ∧ Dp K H v d) us ds
  | _, _, _, .nil, h => by cases h; exact .nil
  | _, _, _, .cons r t, h => by
    cases h with
    | cons h1 h2 => exact .cons ⟨_, r, h1⟩ (each_vals t h2)
theorem vals_each {K : PySem.W.Frag} {H : Hp} : ∀ {us : List Value} {ds : List PyData}, PySem.W.EachIs (fun u d => ∃ v, RelV v u ∧ Dp K H v d) us ds → ∃ vs, Vals vs us ∧ DpAll K H vs ds
  | _, _, .nil => ⟨[], .nil, .nil⟩
  | _, _, .cons ⟨v, r, h⟩ t => by
    obtain ⟨vs, h1, h2⟩ := vals_each t
    exact ⟨v :: vs, .cons r h1, .cons h h2⟩
theorem each_reads (I : Inv X pins σ H s) : ∀ {vs : List V} {us : List Value} {ds : List PyData}, Vals vs us → DpAll X.K H vs ds → PySem.W.EachIs (fun u d => ∃ as, Reads s.heap u d as) us ds
  | _, _, _, .nil, h => by cases h; exact .nil
  | _, _, _, .cons r t, h => by
    cases h with
    | cons h1 h2 => exact .cons (Dp.reads I _ _ _ h1 r) (each_reads I t h2)
/-- .. the new list's place told -/
def rSortedL (K : PySem.W.Frag) : List V → Hp → VK → Prop := fun vs H Q => ∃ xs, DpAll K H vs [.list xs] ∧ PySem.W.AllAlike xs ∧ PySem.W.Sortable xs ∧ xs.length ≤ sizeLine ∧ (∀ x ∈ xs, x.depth < 60) ∧
  ∀ p acc, H p = none → DpAll K (upd H p (.lst acc)) acc (xs.mergeSort (PySem.W.dataLe false id)) → Q (.ref p) (upd H p (.lst acc))
theorem cr_sortedL (hu : X.A.units + 64 < cLine) : CallR X (.builtin "sorted") (rSortedL X.K) := by
  intro pins s σ H vs us Q I r h
  obtain ⟨xs, hv, hal, hso, hz, hd, q⟩ := h
  obtain ⟨v, rfl, h1⟩ := dps1 hv
  obtain ⟨a, ys, e, hs, ha⟩ := dp_list h1
  subst e
  obtain ⟨its, rv, hl, _⟩ := I.list hs
  rw [Vals.ref1 r]
  have e1 := each_vals rv ha
  have e2 := each_reads I rv ha
  have hm : xs.map id = xs := by simp
  refine PySem.W.sorted_data (vs := its) (bs := xs) (enc := id) hl.isList e1 e2 (by rw [hm]; exact hal) (by rw [hm]; exact hso) hz (fun b hb => by have := hd b hb; show _ + b.depth < _; omega) fun out ho eo => ?_
  obtain ⟨ws, w1, w2⟩ := vals_each eo
  have hnew : H (s.heap.objs.size + 1) = none := I.hok.fresh (Nat.le_succ _)
  obtain ⟨n, hn⟩ := PyProof.Rows.sortedAll_at s.heap its (List.toArray out)
  have hwl : ws.length ≤ sizeLine := by
    rw [dps_len w2, List.length_mergeSort]
    exact hz
  exact ⟨.ref (s.heap.objs.size + 1), upd H (s.heap.objs.size + 1) (.lst ws), I.laid (t' := s.toks) (fun b u e => PyProof.Rows.sortedAll_old e) (Nat.le_succ _) ⟨hwl, out, n, w1, hn⟩, rfl, q _ _ hnew (dps_ex (Evl.Ex.new hnew) w2)⟩
theorem cd_sorted (hu : X.A.units + 64 < cLine) : CallR X (.builtin "sorted") (rDN X.K gSorted) := callR_imp (cr_sortedL hu) fun vs H Q ⟨ds, d, hv, ⟨xs, e1, hal, hso, hz, hd, e2⟩, q⟩ => by
  subst e1 e2
  exact ⟨xs, hv, hal, hso, hz, hd, fun p acc hp hda => q _ _ (Evl.Ex.new hp) (dp_lst_at upd_same hda)⟩
end

/-! ### isinstance -/
def kindD : PyData → String
  | .none => "NoneType"
  | .bool _ => "bool"
  | .int _ => "int"
  | .str _ => "str"
  | .list _ => "list"
  | .tuple _ => "tuple"
  | .dict _ => "dict"
theorem ty_of {K : PySem.W.Frag} {H : Hp} {v : V} {d : PyData} (h : Dp K H v d) : TyX K H v (.type (kindD d)) := by
  cases h with
  | non => exact .base .non
  | bl b => exact .base (.bl b)
  | int i => exact .base (.int i)
  | str x => exact .base (.str x)
  | lst hs _ =>
    rcases hs with (h | ⟨o, h⟩) | ⟨o, its, n, hk, hc, _⟩
    · exact .base (.lst h)
    · exact .base (.frz h)
    · exact .kList hk hc
  | tup hs _ =>
    rcases hs with (h | ⟨o, h⟩) | ⟨o, its, n, hk, hc, _⟩
    · exact .base (.tup h)
    · exact .fTuple h
    · exact .kTuple hk hc
section
variable {X : Cx} {e : Expr} {fa : DSt → PyData → Prop} {pos : Pos}
def fIsi (T : String) (fa : DSt → PyData → Prop) : DSt → PyData → Prop := fun ρ d => ∃ dx b, fa ρ dx ∧ kitB (kindD dx) T = some b ∧ d = .bool b
/-- isinstance(e, T), T a built-in class -/
theorem de_isi {T : String} {x : Str} {p p2 : Pos} (hg : Gl X "isinstance") (hm : X.mg "isinstance" = none) (ha : PE X e (tD X.K fa)) (hgT : Gl X x) (hmT : X.mg x = none) (hT : bootBuiltins x = some (.type T)) (hb : bootBuiltins "isinstance" = some (.builtin "isinstance"))
    (hn : x ≠ "__name__" := by decide) (hd : (x == ("__debug__" : Str)) = false := by decide)
    (he : starEach [e, .Name x p2] X.env = (false, eval e X.env) :: starEach [.Name x p2] X.env := by rfl) (hpl : (backTo pos (starEach [.Name x p2] X.env)).any (·.1) = false := by rfl) :
    PE X (.Call (.Name "isinstance" p) [e, .Name x p2] [] pos) (tD X.K (fIsi T fa)) :=
  pe_imp (pe_callB call_isi hg hm hb (pa_cons ha (pa_cons (pe_bltn (v := .ty T) hgT hmT hT rfl hn hd) pa_nil) he) (he := he) (hpl := hpl)) fun σ H Q ⟨ρ, d, hs, ⟨dx, b, h1, h2, h3⟩, q⟩ =>
    ⟨ρ, dx, hs, h1, fun v H1 e1 hv => ⟨v, .ty T, .type (kindD dx), .type T, b, rfl, .ty T, ty_of hv, kit_ty h2, by
      subst h3
      exact q _ H1 e1 (.bl b)⟩⟩
def fIsi2 (T U : String) (fa : DSt → PyData → Prop) : DSt → PyData → Prop := fun ρ d => ∃ dx b c, fa ρ dx ∧ kitB (kindD dx) T = some b ∧ kitB (kindD dx) U = some c ∧ d = .bool (b || c)
theorem de_isi2 {T U : String} {x y : Str} {p p2 p3 p4 : Pos} {k : Nat} (hg : Gl X "isinstance") (hm : X.mg "isinstance" = none) (ha : PE X e (tD X.K fa)) (hgT : Gl X x) (hmT : X.mg x = none) (hT : bootBuiltins x = some (.type T)) (hgU : Gl X y) (hmU : X.mg y = none) (hU : bootBuiltins y = some (.type U))
    (hb : bootBuiltins "isinstance" = some (.builtin "isinstance")) (hn : x ≠ "__name__" := by decide) (hd : (x == ("__debug__" : Str)) = false := by decide) (hn2 : y ≠ "__name__" := by decide) (hd2 : (y == ("__debug__" : Str)) = false := by decide)
    (he : starEach [e, .Tuple [.Name x p2, .Name y p3] k p4] X.env = (false, eval e X.env) :: starEach [.Tuple [.Name x p2, .Name y p3] k p4] X.env := by rfl) (hpl : (backTo pos (starEach [.Tuple [.Name x p2, .Name y p3] k p4] X.env)).any (·.1) = false := by rfl) :
    PE X (.Call (.Name "isinstance" p) [e, .Tuple [.Name x p2, .Name y p3] k p4] [] pos) (tD X.K (fIsi2 T U fa)) :=
  pe_imp (pe_callB call_isiT hg hm hb (pa_cons ha (pa_cons (pe_tup (pa_cons (pe_bltn (v := .ty T) hgT hmT hT rfl hn hd) (pa_cons (pe_bltn (v := .ty U) hgU hmU hU rfl hn2 hd2) pa_nil))) pa_nil) he) (he := he) (hpl := hpl)) fun σ H Q ⟨ρ, d, hs, ⟨dx, b, c, h1, h2, h4, h3⟩, q⟩ =>
    ⟨ρ, dx, hs, h1, fun v H1 e1 hv => ⟨by show 2 ≤ sizeLine; decide, fun t ht => ⟨v, t, [.ty T, .ty U], .type (kindD dx), [.type T, .type U], b || c, rfl, upd_same, .cons (.ty T) (.cons (.ty U) .nil), ty_of (dp_ex (Evl.Ex.new ht) hv),
      kitAny_cons (kit_ty h2) (fun hb => by
        subst hb
        exact kitAny_cons (kit_ty h4) (fun hc => by subst hc; exact kitAny_nil) (fun hc => by subst hc; rfl)) (fun hb => by subst hb; rfl), by
      subst h3
      exact q _ _ (e1.trans (Evl.Ex.new ht)) (.bl _)⟩⟩⟩
end
end Mx
/-! MxC: comprehensions by data; calls of defs; displays with a star; ranges. -/
namespace Mx
open PySem PySem.Spec PyProof.Rows L2

theorem pe_impI {X : Cx} {e : Expr} {t t' : TE} (h : PE X e t) (i : ∀ σ H Q, σ.length = X.N.length → t' σ H Q → t σ H Q) : PE X e t' := ⟨fun pins s σ H Q I q => h.run pins s σ H Q I (i _ _ _ I.len q)⟩
theorem ps_impI {X : Cx} {e : Stmt} {t t' : TS} (h : PS X e t) (i : ∀ D σ H, σ.length = X.N.length → t' D σ H → t D σ H) : PS X e t' := ⟨fun pins s σ H D I q => h.run pins s σ H D I (i _ _ _ I.len q)⟩

/-! ### calls of defs that only read -/
section
variable {X : Cx} {k : Nat} {f : Addr} {fd : FuncData} {ps : List Str} {g : List PyData → PyData → Prop} {x : Str} {p pos : Pos} {e : Expr} {es : List Expr} {fs : DSt → List PyData → Prop}
theorem de_fn (F : FnOk X.prog X.w X.K X.mg X.base CX0 k f fd ps (spD X.K g)) (hr : Room k X.A) (hg : Gl X x) (hm : X.mg x = some (.ref f)) (hk : PySem.W.keepIn X.K (.ref f) = true) (hb : Binds X.K fd ps [])
    (ha : PA X (e :: es) (tDA X.K fs)) (hdb : (x == ("__debug__" : Str)) = false := by decide) (he : starEach (e :: es) X.env = (false, eval e X.env) :: starEach es X.env := by rfl) (hpl : (backTo pos (starEach es X.env)).any (·.1) = false := by rfl) :
    PE X (.Call (.Name x p) (e :: es) [] pos) (tD X.K (fCall g fs)) := pe_imp (pe_call (E := E0) F hr hg hm hk hb .nil pass0 ha hdb he hpl) fun σ H Q ⟨ρ, d, hs, ⟨ds, h1, h2⟩, q⟩ => ⟨ρ, ds, hs, h1, fun vs H1 e1 hvs => by
  show spD X.K g (vs ++ []) H1 Q _
  rw [List.append_nil]
  exact ⟨ds, d, hvs, h2, fun v H2 e2 hv => q v H2 (e1.trans e2) hv⟩⟩
end

/-! ### comprehensions -/
def fItem (ρ : DSt) (j : Nat) (d : PyData) : DSt := (wipeD ρ [j]).set j (some d)
/-- the items that a test lets through, told -/
def Lc {α : Type} (ρ : DSt) (j : Nat) (ft : DSt → Bool → Prop) (fe : DSt → PyData → Prop) (xs : List α) (enc : α → PyData) (p : α → Bool) (h : α → PyData) : Prop :=
  xs.length ≤ sizeLine ∧ (∀ x ∈ xs, ft (fItem ρ j (enc x)) (p x)) ∧ ∀ x ∈ xs, p x = true → noL (h x) = true ∧ fe (fItem ρ j (enc x)) (h x)
def lcOut {α : Type} (xs : List α) (p : α → Bool) (h : α → PyData) : List PyData := (xs.filter p).map h
theorem lcOut_noL {α : Type} {xs : List α} {p : α → Bool} {h : α → PyData} (hn : ∀ x ∈ xs, p x = true → noL (h x) = true) : ∀ i, noLs (lcOut (xs.take i) p h) = true := by
  intro i
  have aux : ∀ l : List α, (∀ x ∈ l, p x = true → noL (h x) = true) → noLs (lcOut l p h) = true := by
    intro l
    induction l with
    | nil => intro _; rfl
    | cons a l ih =>
      intro hl
      unfold lcOut at ih ⊢
      rw [List.filter_cons]
      have ih' := ih fun x hx => hl x (List.mem_cons_of_mem _ hx)
      by_cases hp : p a = true
      · rw [if_pos hp, List.map_cons]
        simp only [noLs, hl a List.mem_cons_self hp, ih', Bool.and_self]
      · rw [if_neg hp]
        exact ih'
  exact aux _ fun x hx => hn x (List.mem_of_mem_take hx)
theorem lcOut_len {α : Type} {xs : List α} {p : α → Bool} {h : α → PyData} : (lcOut xs p h).length ≤ xs.length := by
  unfold lcOut
  rw [List.length_map]
  exact List.length_filter_le _ _
theorem lcOut_yes {α : Type} {xs : List α} {p : α → Bool} {h : α → PyData} {i : Nat} {x : α} (hx : xs[i]? = some x) (hp : p x = true) : lcOut (xs.take (i + 1)) p h = lcOut (xs.take i) p h ++ [h x] := by
  unfold lcOut
  rw [List.take_add_one, hx, List.filter_append, List.map_append]
  simp [hp]
theorem lcOut_no {α : Type} {xs : List α} {p : α → Bool} {h : α → PyData} {i : Nat} {x : α} (hx : xs[i]? = some x) (hp : p x = false) : lcOut (xs.take (i + 1)) p h = lcOut (xs.take i) p h := by
  unfold lcOut
  rw [List.take_add_one, hx, List.filter_append, List.map_append]
  simp [hp]
/-- behind i turns -/
def LcPv (K : PySem.W.Frag) (H1 : Hp) (D : Addr) (out : List PyData) (H' : Hp) : Prop := Ex H1 H' ∧ ∃ acc, H' D = some (.lst acc) ∧ DpAll K H' acc out
theorem wipe_one {σ : L2.St} {j : Nat} {x : Option V} : wipe ((wipe σ [j]).set j x) [j] = wipe σ [j] := by
  show ((σ.set j none).set j x).set j none = σ.set j none
  rw [List.set_set, List.set_set]
section
variable {K : PySem.W.Frag} {α : Type} {ρ : DSt} {j : Nat} {ft : DSt → Bool → Prop} {fe : DSt → PyData → Prop} {xs : List α} {enc : α → PyData} {p : α → Bool} {h : α → PyData} {H H1 H' : Hp} {D : Addr} {σ : L2.St}
theorem lc_step (L : Lc ρ j ft fe xs enc p h) (hs : SD K H σ ρ) (e01 : Ex H H1) (hj : j < σ.length) (hD : H1 D = none) {i : Nat} {x : α} {v : V} (hx : xs[i]? = some x) (hv : Dp K H1 v (enc x)) (hp : LcPv K H1 D (lcOut (xs.take i) p h) H') :
    gName j v (wipe σ [j]) H' fun σ2 H2 => wipe σ2 [j] = wipe σ [j] ∧ tDT K ft σ2 H2 fun b H3 => if b = true then tD K fe σ2 H3 fun y H4 => ∃ acc, H4 D = some (.lst acc) ∧ acc.length < sizeLine ∧ LcPv K H1 D (lcOut (xs.take (i + 1)) p h) (upd H4 D (.lst (acc ++ [y]))) else LcPv K H1 D (lcOut (xs.take (i + 1)) p h) H3 := by
  obtain ⟨hz, l1, l2⟩ := L
  obtain ⟨e1, acc, hacc, hda⟩ := hp
  have hmem : x ∈ xs := List.mem_of_getElem? hx
  have hlt : i < xs.length := (List.getElem?_eq_some_iff.mp hx).1
  have sd : SD K H' ((wipe σ [j]).set j (some v)) (fItem ρ j (enc x)) := ((hs.ex (e01.trans e1)).wipe [j]).set (by rw [wipe_length]; exact hj) (dp_ex e1 hv)
  refine ⟨wipe_one, fItem ρ j (enc x), p x, sd, l1 x hmem, fun H2 e2 => ?_⟩
  cases hpx : p x with
  | true =>
    rw [if_pos rfl]
    obtain ⟨hn, hfe⟩ := l2 x hmem hpx
    refine ⟨_, h x, sd.ex e2, hfe, fun y H4 e4 hy => ⟨acc, e4 _ _ (e2 _ _ hacc), ?_, ?_, acc ++ [y], upd_same, ?_⟩⟩
    · have q1 := dps_len hda
      have q2 := lcOut_len (xs := xs.take i) (p := p) (h := h)
      rw [List.length_take] at q2
      omega
    · intro a o ha
      rw [upd_ne (ne_of_none ha hD)]
      exact e4 _ _ (e2 _ _ (e1 _ _ ha))
    · rw [lcOut_yes hx hpx]
      have eT : ExT K H4 (upd H4 D (.lst (acc ++ [y]))) := ext_upd (e4 _ _ (e2 _ _ hacc))
      refine dps_app (dps_td eT _ _ (lcOut_noL (fun x hx hp => (l2 x hx hp).1) i) (dps_ex (e2.trans e4) hda)) (dps_one (dp_td eT _ _ hn hy))
  | false =>
    rw [if_neg Bool.false_ne_true]
    refine ⟨e1.trans e2, acc, e2 _ _ hacc, ?_⟩
    rw [lcOut_no hx hpx]
    exact dps_ex e2 hda
theorem lc_zero (hD : H1 D = none) : LcPv K H1 D (lcOut (xs.take 0) p h) (upd H1 D (.lst [])) := ⟨Evl.Ex.new hD, [], upd_same, .nil⟩
end
/-- a new list, its place told -/
def tDL (K : PySem.W.Frag) (f : DSt → List PyData → Prop) : TE := fun σ H Q => ∃ ρ ds, SD K H σ ρ ∧ f ρ ds ∧ ∀ p acc H', H p = none → Ex H H' → H' p = some (.lst acc) → DpAll K H' acc ds → Q (.ref p) H'
def fAsL (f : DSt → List PyData → Prop) : DSt → PyData → Prop := fun ρ d => ∃ ds, f ρ ds ∧ d = .list ds
theorem tDL_D {K : PySem.W.Frag} {f : DSt → List PyData → Prop} {σ : L2.St} {H : Hp} {Q : VK} (h : tD K (fAsL f) σ H Q) : tDL K f σ H Q := by
  obtain ⟨ρ, d, hs, ⟨ds, h1, rfl⟩, q⟩ := h
  exact ⟨ρ, ds, hs, h1, fun p acc H' _ e hp hda => q _ H' e (dp_lst_at hp hda)⟩
def fLc (fi : DSt → PyData → Prop) (j : Nat) (ft : DSt → Bool → Prop) (fe : DSt → PyData → Prop) : DSt → List PyData → Prop := fun ρ d =>
  ∃ (α : Type) (xs : List α) (enc : α → PyData) (p : α → Bool) (h : α → PyData), fi ρ (.list (xs.map enc)) ∧ Lc ρ j ft fe xs enc p h ∧ d = lcOut xs p h
def fLcT (fi : DSt → PyData → Prop) (j : Nat) (ft : DSt → Bool → Prop) (fe : DSt → PyData → Prop) : DSt → List PyData → Prop := fun ρ d =>
  ∃ (α : Type) (xs : List α) (enc : α → PyData) (p : α → Bool) (h : α → PyData), fi ρ (.tuple (xs.map enc)) ∧ Lc ρ j ft fe xs enc p h ∧ d = lcOut xs p h
def fLcR (fi : DSt → PyData → Prop) (j : Nat) (ft : DSt → Bool → Prop) (fe : DSt → PyData → Prop) : DSt → List PyData → Prop := fun ρ d =>
  ∃ (n : Nat) (p : Nat → Bool) (h : Nat → PyData), fi ρ (.int (n : Int)) ∧ Lc ρ j ft fe (List.range n) (fun i => .int (i : Int)) p h ∧ d = lcOut (List.range n) p h
def tYesD : DSt → Bool → Prop := fun _ b => b = true
section
variable {X : Cx} {elt tg iter : Expr} {ifs : List Expr} {scope : Scope} {x : Str} {j : Nat} {pos : Pos} {fi : DSt → PyData → Prop} {ft : DSt → Bool → Prop} {fe : DSt → PyData → Prop}
theorem dts_nil : PTs X [] (tDT X.K tYesD) := ⟨fun pins s σ H Q I h => pts_nil.run pins s σ H Q I (by
  obtain ⟨ρ, b, hs, hb, q⟩ := h
  have hb : b = true := hb
  subst hb
  exact q H (Evl.Ex.refl H))⟩
theorem dts_one {c : Expr} (h : PT X c (tDT X.K ft)) : PTs X [c] (tDT X.K ft) := pts_one h
theorem jl {N : List Str} {σ : L2.St} {j : Nat} {x : Str} (hl : σ.length = N.length) (h : N[j]? = some x) : j < σ.length := by
  rw [hl]
  exact (List.getElem?_eq_some_iff.mp h).1
theorem lcL_DL {K : PySem.W.Frag} {N : List Str} {σ : L2.St} {H : Hp} {Q : VK} (hj : j < σ.length) (h : tDL K (fLc fi j ft fe) σ H Q) : tLc (iList K (tD K fi)) (gName j) (tDT K ft) (tD K fe) [j] σ H Q := by
  obtain ⟨ρ, d, hs, ⟨α, xs, enc, p, h, h1, L, h2⟩, q⟩ := h
  subst h2
  refine ⟨ρ, _, hs, h1, fun v H1 e1 hv => ?_⟩
  obtain ⟨a, ys, e, hsq, hda⟩ := dp_list hv
  subst e
  have hlen : ys.length = xs.length := by rw [dps_len hda, List.length_map]
  refine ⟨a, rfl, ⟨ys, hsq⟩, fun D hD => lc_list (xs := ys) (fun i H' => LcPv K H1 D (lcOut (xs.take i) p h) H') (lc_zero hD) (fun i H' _ hp => Evl.ex_l hp.1 hsq) (fun i y H' hy hp => ?_) (fun H' hp => ?_)⟩
  · obtain ⟨dy, hdy, hpy⟩ := dps_get' hda hy
    rw [List.getElem?_map] at hdy
    cases hx : xs[i]? with
    | none => rw [hx] at hdy; cases hdy
    | some xi =>
      rw [hx] at hdy
      have e : enc xi = dy := Option.some.inj hdy
      exact lc_step L hs e1 hj hD hx (by rw [e]; exact hpy) hp
  · obtain ⟨e2, acc, hacc, hda2⟩ := hp
    rw [hlen, List.take_length] at hda2
    exact q _ _ H' (Evl.fresh_back e1 hD) (e1.trans e2) hacc hda2
theorem lcT_DL {K : PySem.W.Frag} {N : List Str} {σ : L2.St} {H : Hp} {Q : VK} (hj : j < σ.length) (h : tDL K (fLcT fi j ft fe) σ H Q) : tLc (iTup K (tD K fi)) (gName j) (tDT K ft) (tD K fe) [j] σ H Q := by
  obtain ⟨ρ, d, hs, ⟨α, xs, enc, p, h, h1, L, h2⟩, q⟩ := h
  subst h2
  refine ⟨ρ, _, hs, h1, fun v H1 e1 hv => ?_⟩
  obtain ⟨a, ys, e, hsq, hda⟩ := dp_tuple hv
  subst e
  have hlen : ys.length = xs.length := by rw [dps_len hda, List.length_map]
  refine ⟨a, rfl, ⟨ys, hsq⟩, fun D hD => lc_tup (xs := ys) (fun i H' => LcPv K H1 D (lcOut (xs.take i) p h) H') (lc_zero hD) (fun i H' _ hp => Evl.ex_t hp.1 hsq) (fun i y H' hy hp => ?_) (fun H' hp => ?_)⟩
  · obtain ⟨dy, hdy, hpy⟩ := dps_get' hda hy
    rw [List.getElem?_map] at hdy
    cases hx : xs[i]? with
    | none => rw [hx] at hdy; cases hdy
    | some xi =>
      rw [hx] at hdy
      have e : enc xi = dy := Option.some.inj hdy
      exact lc_step L hs e1 hj hD hx (by rw [e]; exact hpy) hp
  · obtain ⟨e2, acc, hacc, hda2⟩ := hp
    rw [hlen, List.take_length] at hda2
    exact q _ _ H' (Evl.fresh_back e1 hD) (e1.trans e2) hacc hda2
theorem lcR_DL {K : PySem.W.Frag} {N : List Str} {σ : L2.St} {H : Hp} {Q : VK} (hj : j < σ.length) (h : tDL K (fLcR fi j ft fe) σ H Q) : tLc (iRng1 (tCons (tD K fi) tNil)) (gName j) (tDT K ft) (tD K fe) [j] σ H Q := by
  obtain ⟨ρ, d, hs, ⟨n, p, h, h1, L, h2⟩, q⟩ := h
  subst h2
  have hn : n ≤ sizeLine := by
    have := L.1
    rw [List.length_range] at this
    exact this
  have hsz := sizeLine_eq
  refine ⟨ρ, _, hs, h1, fun v H1 e1 hv => ⟨(n : Int), by rw [dp_int hv], by omega, by omega, fun D hD => lc_range (lo := 0) (n := (n : Int).toNat) (fun i H' => LcPv K H1 D (lcOut ((List.range n).take i) p h) H') (lc_zero hD) (fun i H' hi hp => ?_) (fun H' hp => ?_)⟩⟩
  · have hi' : i < n := by omega
    have hx : (List.range n)[i]? = some i := by
      rw [List.getElem?_range hi']
    rw [show (0 : Int) + (i : Int) = (i : Int) by omega]
    exact lc_step L hs e1 hj hD hx (.int _) hp
  · obtain ⟨e2, acc, hacc, hda2⟩ := hp
    rw [List.take_of_length_le (by rw [List.length_range]; omega)] at hda2
    exact q _ _ H' (Evl.fresh_back e1 hD) (e1.trans e2) hacc hda2
theorem lcL_D {K : PySem.W.Frag} {N : List Str} {σ : L2.St} {H : Hp} {Q : VK} (hj : j < σ.length) (h : tD K (fAsL (fLc fi j ft fe)) σ H Q) : tLc (iList K (tD K fi)) (gName j) (tDT K ft) (tD K fe) [j] σ H Q := lcL_DL (N := N) hj (tDL_D h)
theorem lcT_D {K : PySem.W.Frag} {N : List Str} {σ : L2.St} {H : Hp} {Q : VK} (hj : j < σ.length) (h : tD K (fAsL (fLcT fi j ft fe)) σ H Q) : tLc (iTup K (tD K fi)) (gName j) (tDT K ft) (tD K fe) [j] σ H Q := lcT_DL (N := N) hj (tDL_D h)
theorem lcR_D {K : PySem.W.Frag} {N : List Str} {σ : L2.St} {H : Hp} {Q : VK} (hj : j < σ.length) (h : tD K (fAsL (fLcR fi j ft fe)) σ H Q) : tLc (iRng1 (tCons (tD K fi) tNil)) (gName j) (tDT K ft) (tD K fe) [j] σ H Q := lcR_DL (N := N) hj (tDL_D h)
theorem de_lc (hc : X.calm = true) (hN : X.N.Nodup) (hx : X.N[j]? = some x) (hi : PE X iter (tD X.K fi)) (ok : BlkOk X.N X.env.scope scope [(x, j)])
    (hg : ∀ (s : Shared) (H : Hp) (C : Addr) (cl : List (Str × Addr)) (fp : List Addr), PG (X.blk s H scope (compEnvC scope cl C X.env) fp) tg (gName j)) (ht : ∀ (s : Shared) (H : Hp) (C : Addr) (cl : List (Str × Addr)) (fp : List Addr), PTs (X.blk s H scope (compEnvC scope cl C X.env) fp) ifs (tDT X.K ft))
    (he : ∀ (s : Shared) (H : Hp) (C : Addr) (cl : List (Str × Addr)) (fp : List Addr), PE (X.blk s H scope (compEnvC scope cl C X.env) fp) elt (tD X.K fe)) (hs : ∀ x, foldedSetIterable iter X.env x = pure x := by intro _; rfl) :
    PE X (.ListComp elt [⟨tg, iter, ifs, 0⟩] scope pos) (tD X.K (fAsL (fLc fi j ft fe))) :=
  pe_impI (pe_lc (own := [(x, j)]) hc hN (pi_list hi) ok hg ht he hs) fun σ H Q hl h => lcL_D (N := X.N) (jl hl hx) h
theorem dl_lc (hc : X.calm = true) (hN : X.N.Nodup) (hx : X.N[j]? = some x) (hi : PE X iter (tD X.K fi)) (ok : BlkOk X.N X.env.scope scope [(x, j)])
    (hg : ∀ (s : Shared) (H : Hp) (C : Addr) (cl : List (Str × Addr)) (fp : List Addr), PG (X.blk s H scope (compEnvC scope cl C X.env) fp) tg (gName j)) (ht : ∀ (s : Shared) (H : Hp) (C : Addr) (cl : List (Str × Addr)) (fp : List Addr), PTs (X.blk s H scope (compEnvC scope cl C X.env) fp) ifs (tDT X.K ft))
    (he : ∀ (s : Shared) (H : Hp) (C : Addr) (cl : List (Str × Addr)) (fp : List Addr), PE (X.blk s H scope (compEnvC scope cl C X.env) fp) elt (tD X.K fe)) (hs : ∀ x, foldedSetIterable iter X.env x = pure x := by intro _; rfl) :
    PE X (.ListComp elt [⟨tg, iter, ifs, 0⟩] scope pos) (tDL X.K (fLc fi j ft fe)) :=
  pe_impI (pe_lc (own := [(x, j)]) hc hN (pi_list hi) ok hg ht he hs) fun σ H Q hl h => lcL_DL (N := X.N) (jl hl hx) h
theorem de_lcT (hc : X.calm = true) (hN : X.N.Nodup) (hx : X.N[j]? = some x) (hi : PE X iter (tD X.K fi)) (ok : BlkOk X.N X.env.scope scope [(x, j)])
    (hg : ∀ (s : Shared) (H : Hp) (C : Addr) (cl : List (Str × Addr)) (fp : List Addr), PG (X.blk s H scope (compEnvC scope cl C X.env) fp) tg (gName j)) (ht : ∀ (s : Shared) (H : Hp) (C : Addr) (cl : List (Str × Addr)) (fp : List Addr), PTs (X.blk s H scope (compEnvC scope cl C X.env) fp) ifs (tDT X.K ft))
    (he : ∀ (s : Shared) (H : Hp) (C : Addr) (cl : List (Str × Addr)) (fp : List Addr), PE (X.blk s H scope (compEnvC scope cl C X.env) fp) elt (tD X.K fe)) (hs : ∀ x, foldedSetIterable iter X.env x = pure x := by intro _; rfl) :
    PE X (.ListComp elt [⟨tg, iter, ifs, 0⟩] scope pos) (tD X.K (fAsL (fLcT fi j ft fe))) :=
  pe_impI (pe_lc (own := [(x, j)]) hc hN (pi_tup hi) ok hg ht he hs) fun σ H Q hl h => lcT_D (N := X.N) (jl hl hx) h
theorem dl_lcT (hc : X.calm = true) (hN : X.N.Nodup) (hx : X.N[j]? = some x) (hi : PE X iter (tD X.K fi)) (ok : BlkOk X.N X.env.scope scope [(x, j)])
    (hg : ∀ (s : Shared) (H : Hp) (C : Addr) (cl : List (Str × Addr)) (fp : List Addr), PG (X.blk s H scope (compEnvC scope cl C X.env) fp) tg (gName j)) (ht : ∀ (s : Shared) (H : Hp) (C : Addr) (cl : List (Str × Addr)) (fp : List Addr), PTs (X.blk s H scope (compEnvC scope cl C X.env) fp) ifs (tDT X.K ft))
    (he : ∀ (s : Shared) (H : Hp) (C : Addr) (cl : List (Str × Addr)) (fp : List Addr), PE (X.blk s H scope (compEnvC scope cl C X.env) fp) elt (tD X.K fe)) (hs : ∀ x, foldedSetIterable iter X.env x = pure x := by intro _; rfl) :
    PE X (.ListComp elt [⟨tg, iter, ifs, 0⟩] scope pos) (tDL X.K (fLcT fi j ft fe)) :=
  pe_impI (pe_lc (own := [(x, j)]) hc hN (pi_tup hi) ok hg ht he hs) fun σ H Q hl h => lcT_DL (N := X.N) (jl hl hx) h
theorem de_lcR {a : Expr} {p p2 : Pos} (hc : X.calm = true) (hN : X.N.Nodup) (hx : X.N[j]? = some x) (hgr : Gl X "range") (hmr : X.mg "range" = none) (hi : PE X a (tD X.K fi)) (ok : BlkOk X.N X.env.scope scope [(x, j)])
    (hg : ∀ (s : Shared) (H : Hp) (C : Addr) (cl : List (Str × Addr)) (fp : List Addr), PG (X.blk s H scope (compEnvC scope cl C X.env) fp) tg (gName j)) (ht : ∀ (s : Shared) (H : Hp) (C : Addr) (cl : List (Str × Addr)) (fp : List Addr), PTs (X.blk s H scope (compEnvC scope cl C X.env) fp) ifs (tDT X.K ft))
    (he : ∀ (s : Shared) (H : Hp) (C : Addr) (cl : List (Str × Addr)) (fp : List Addr), PE (X.blk s H scope (compEnvC scope cl C X.env) fp) elt (tD X.K fe)) (hst : starEach [a] X.env = [(false, eval a X.env)] := by rfl) (hs : ∀ x, foldedSetIterable (.Call (.Name "range" p) [a] [] p2) X.env x = pure x := by intro _; rfl) :
    PE X (.ListComp elt [⟨tg, .Call (.Name "range" p) [a] [] p2, ifs, 0⟩] scope pos) (tD X.K (fAsL (fLcR fi j ft fe))) :=
  pe_impI (pe_lc (own := [(x, j)]) hc hN (pi_range1 hgr hmr (pa_cons hi pa_nil (by rw [hst]; rfl)) hst) ok hg ht he hs) fun σ H Q hl h => lcR_D (N := X.N) (jl hl hx) h
theorem dl_lcR {a : Expr} {p p2 : Pos} (hc : X.calm = true) (hN : X.N.Nodup) (hx : X.N[j]? = some x) (hgr : Gl X "range") (hmr : X.mg "range" = none) (hi : PE X a (tD X.K fi)) (ok : BlkOk X.N X.env.scope scope [(x, j)])
    (hg : ∀ (s : Shared) (H : Hp) (C : Addr) (cl : List (Str × Addr)) (fp : List Addr), PG (X.blk s H scope (compEnvC scope cl C X.env) fp) tg (gName j)) (ht : ∀ (s : Shared) (H : Hp) (C : Addr) (cl : List (Str × Addr)) (fp : List Addr), PTs (X.blk s H scope (compEnvC scope cl C X.env) fp) ifs (tDT X.K ft))
    (he : ∀ (s : Shared) (H : Hp) (C : Addr) (cl : List (Str × Addr)) (fp : List Addr), PE (X.blk s H scope (compEnvC scope cl C X.env) fp) elt (tD X.K fe)) (hst : starEach [a] X.env = [(false, eval a X.env)] := by rfl) (hs : ∀ x, foldedSetIterable (.Call (.Name "range" p) [a] [] p2) X.env x = pure x := by intro _; rfl) :
    PE X (.ListComp elt [⟨tg, .Call (.Name "range" p) [a] [] p2, ifs, 0⟩] scope pos) (tDL X.K (fLcR fi j ft fe)) :=
  pe_impI (pe_lc (own := [(x, j)]) hc hN (pi_range1 hgr hmr (pa_cons hi pa_nil (by rw [hst]; rfl)) hst) ok hg ht he hs) fun σ H Q hl h => lcR_DL (N := X.N) (jl hl hx) h
/-- name = [..] on one line: by data, the list's own place told -/
theorem ps_lc {i : Nat} {y : Str} {py spos : Pos} {own : List (Str × Nat)} {wi : TI} {g : TG} {tt : TT} {te : TE} {f : DSt → PyData → Prop} (h : PS X (.Assign [.Name y py] (.ListComp elt [⟨tg, iter, ifs, 0⟩] scope pos) spos) (tAsg (tLc wi g tt te (own.map (·.2))) (gName i)))
    (hj : X.N[j]? = some x) (imp : ∀ σ H Q, j < σ.length → tD X.K f σ H Q → tLc wi g tt te (own.map (·.2)) σ H Q) : PS X (.Assign [.Name y py] (.ListComp elt [⟨tg, iter, ifs, 0⟩] scope pos) spos) (tAsg (tD X.K f) (gName i)) :=
  ps_impI h fun D σ H hl q => imp σ H _ (jl hl hj) q
theorem ds_lc {i : Nat} {y : Str} {py spos : Pos} (hc : X.calm = true) (hN : X.N.Nodup) (hy : X.N[i]? = some y) (hyl : X.env.scope.names.lookup y = some .local)
    (hsw : swapsWith (.ListComp elt [⟨tg, iter, ifs, 0⟩] scope pos) (some (.Name y py)) spos.line X.env = pure true) (hx : X.N[j]? = some x) (hi : PE X iter (tD X.K fi)) (ok : BlkOk X.N X.env.scope scope [(x, j)])
    (hg : ∀ (s : Shared) (H : Hp) (C : Addr) (cl : List (Str × Addr)) (fp : List Addr), PG (X.blk s H scope (compEnvC scope cl C X.env) fp) tg (gName j)) (ht : ∀ (s : Shared) (H : Hp) (C : Addr) (cl : List (Str × Addr)) (fp : List Addr), PTs (X.blk s H scope (compEnvC scope cl C X.env) fp) ifs (tDT X.K ft))
    (he : ∀ (s : Shared) (H : Hp) (C : Addr) (cl : List (Str × Addr)) (fp : List Addr), PE (X.blk s H scope (compEnvC scope cl C X.env) fp) elt (tD X.K fe)) (hs : ∀ x, foldedSetIterable iter X.env x = pure x := by intro _; rfl) :
    PS X (.Assign [.Name y py] (.ListComp elt [⟨tg, iter, ifs, 0⟩] scope pos) spos) (tAsg (tD X.K (fAsL (fLc fi j ft fe))) (gName i)) :=
  ps_lc (own := [(x, j)]) (ps_setLc (own := [(x, j)]) hc hN hy hyl hsw (pi_list hi) ok hg ht he hs) hx fun σ H Q hl h => lcL_D (N := X.N) hl h
theorem ds_lcT {i : Nat} {y : Str} {py spos : Pos} (hc : X.calm = true) (hN : X.N.Nodup) (hy : X.N[i]? = some y) (hyl : X.env.scope.names.lookup y = some .local)
    (hsw : swapsWith (.ListComp elt [⟨tg, iter, ifs, 0⟩] scope pos) (some (.Name y py)) spos.line X.env = pure true) (hx : X.N[j]? = some x) (hi : PE X iter (tD X.K fi)) (ok : BlkOk X.N X.env.scope scope [(x, j)])
    (hg : ∀ (s : Shared) (H : Hp) (C : Addr) (cl : List (Str × Addr)) (fp : List Addr), PG (X.blk s H scope (compEnvC scope cl C X.env) fp) tg (gName j)) (ht : ∀ (s : Shared) (H : Hp) (C : Addr) (cl : List (Str × Addr)) (fp : List Addr), PTs (X.blk s H scope (compEnvC scope cl C X.env) fp) ifs (tDT X.K ft))
    (he : ∀ (s : Shared) (H : Hp) (C : Addr) (cl : List (Str × Addr)) (fp : List Addr), PE (X.blk s H scope (compEnvC scope cl C X.env) fp) elt (tD X.K fe)) (hs : ∀ x, foldedSetIterable iter X.env x = pure x := by intro _; rfl) :
    PS X (.Assign [.Name y py] (.ListComp elt [⟨tg, iter, ifs, 0⟩] scope pos) spos) (tAsg (tD X.K (fAsL (fLcT fi j ft fe))) (gName i)) :=
  ps_lc (own := [(x, j)]) (ps_setLc (own := [(x, j)]) hc hN hy hyl hsw (pi_tup hi) ok hg ht he hs) hx fun σ H Q hl h => lcT_D (N := X.N) hl h
theorem ds_lcR {i : Nat} {y : Str} {py spos : Pos} {a : Expr} {p p2 : Pos} (hc : X.calm = true) (hN : X.N.Nodup) (hy : X.N[i]? = some y) (hyl : X.env.scope.names.lookup y = some .local)
    (hsw : swapsWith (.ListComp elt [⟨tg, .Call (.Name "range" p) [a] [] p2, ifs, 0⟩] scope pos) (some (.Name y py)) spos.line X.env = pure true) (hx : X.N[j]? = some x) (hgr : Gl X "range") (hmr : X.mg "range" = none) (hi : PE X a (tD X.K fi)) (ok : BlkOk X.N X.env.scope scope [(x, j)])
    (hg : ∀ (s : Shared) (H : Hp) (C : Addr) (cl : List (Str × Addr)) (fp : List Addr), PG (X.blk s H scope (compEnvC scope cl C X.env) fp) tg (gName j)) (ht : ∀ (s : Shared) (H : Hp) (C : Addr) (cl : List (Str × Addr)) (fp : List Addr), PTs (X.blk s H scope (compEnvC scope cl C X.env) fp) ifs (tDT X.K ft))
    (he : ∀ (s : Shared) (H : Hp) (C : Addr) (cl : List (Str × Addr)) (fp : List Addr), PE (X.blk s H scope (compEnvC scope cl C X.env) fp) elt (tD X.K fe)) (hst : starEach [a] X.env = [(false, eval a X.env)] := by rfl) (hs : ∀ x, foldedSetIterable (.Call (.Name "range" p) [a] [] p2) X.env x = pure x := by intro _; rfl) :
    PS X (.Assign [.Name y py] (.ListComp elt [⟨tg, .Call (.Name "range" p) [a] [] p2, ifs, 0⟩] scope pos) spos) (tAsg (tD X.K (fAsL (fLcR fi j ft fe))) (gName i)) :=
  ps_lc (own := [(x, j)]) (ps_setLc (own := [(x, j)]) hc hN hy hyl hsw (pi_range1 hgr hmr (pa_cons hi pa_nil (by rw [hst]; rfl)) hst) ok hg ht he hs) hx fun σ H Q hl h => lcR_D (N := X.N) hl h
end

/-! ### a star in a display; tuple(range(n)) -/
section
variable {X : Cx} {a e : Expr} {es : List Expr} {fa : DSt → PyData → Prop} {fs : DSt → List PyData → Prop} {p pos : Pos}
def fStar (fa : DSt → PyData → Prop) (fs : DSt → List PyData → Prop) : DSt → List PyData → Prop := fun ρ ds => ∃ xs r, (fa ρ (.tuple xs) ∨ fa ρ (.list xs)) ∧ fs ρ r ∧ ds = xs ++ r
theorem da_star (ha : PE X e (tD X.K fa)) (hr : PA X es (tDA X.K fs)) (hs : starEach (.Starred e p :: es) X.env = (true, eval e X.env) :: starEach es X.env := by rfl) : PA X (.Starred e p :: es) (tDA X.K (fStar fa fs)) := pa_imp (StX.pa_star ha hr hs) fun σ H Q ⟨ρ, ds, hs, ⟨xs, r, h1, h2, h3⟩, q⟩ => by
  subst h3
  rcases h1 with h1 | h1
  · refine ⟨ρ, _, hs, h1, fun v H1 e1 hv => ?_⟩
    obtain ⟨b, ys, e, hsq, hda⟩ := dp_tuple hv
    exact ⟨b, ys, e, .inl hsq, ρ, r, hs.ex e1, h2, fun vs H2 e2 hvs => q _ H2 (e1.trans e2) (dps_app (dps_ex e2 hda) hvs)⟩
  · refine ⟨ρ, _, hs, h1, fun v H1 e1 hv => ?_⟩
    obtain ⟨b, ys, e, hsq, hda⟩ := dp_list hv
    exact ⟨b, ys, e, .inr hsq, ρ, r, hs.ex e1, h2, fun vs H2 e2 hvs => q _ H2 (e1.trans e2) (dps_app (dps_ex e2 hda) hvs)⟩
/-- sorted(e): a new list -/
def gSortL : List PyData → List PyData → Prop := fun xs ys => PySem.W.AllAlike xs ∧ PySem.W.Sortable xs ∧ xs.length ≤ sizeLine ∧ (∀ x ∈ xs, x.depth < 60) ∧ ys = xs.mergeSort (PySem.W.dataLe false id)
def fSortL (fa : DSt → PyData → Prop) : DSt → List PyData → Prop := fun ρ ys => ∃ xs, fa ρ (.list xs) ∧ gSortL xs ys
theorem dl_sorted (hu : X.A.units + 64 < cLine) (hg : Gl X "sorted") (hm : X.mg "sorted" = none) (hb : bootBuiltins "sorted" = some (.builtin "sorted")) (ha : PE X e (tD X.K fa))
    (he : starEach [e] X.env = (false, eval e X.env) :: starEach [] X.env := by rfl) (hpl : (backTo pos (starEach [] X.env)).any (·.1) = false := by rfl) : PE X (.Call (.Name "sorted" p) [e] [] pos) (tDL X.K (fSortL fa)) :=
  pe_imp (pe_callB (cr_sortedL hu) hg hm hb (pa_cons ha pa_nil he) (he := he) (hpl := hpl)) fun σ H Q ⟨ρ, ys, hs, ⟨xs, h1, a1, a2, a3, a4, a5⟩, q⟩ => by
    subst a5
    exact ⟨ρ, _, hs, h1, fun v H1 e1 hv => ⟨xs, dps_one hv, a1, a2, a3, a4, fun p acc hp hda => q p acc _ (Evl.fresh_back e1 hp) (e1.trans (Evl.Ex.new hp)) upd_same hda⟩⟩
theorem de_of_dl {f : DSt → List PyData → Prop} (h : PE X e (tDL X.K f)) : PE X e (tD X.K (fAsL f)) := pe_imp h fun σ H Q q => tDL_D q
/-- tuple(range(n)) -/
def fTupR (fa : DSt → PyData → Prop) : DSt → PyData → Prop := fun ρ d => ∃ n : Nat, fa ρ (.int (n : Int)) ∧ n ≤ 16777216 ∧ d = dL (List.range n)
theorem de_tupR {p2 p3 : Pos} (hc : X.calm = true) (hg : Gl X "tuple") (hm : X.mg "tuple" = none) (hg2 : Gl X "range") (hm2 : X.mg "range" = none) (ha : PE X a (tD X.K fa))
    (na : starEach [a] X.env = (false, eval a X.env) :: starEach [] X.env := by rfl) (nb : starEach [.Call (.Name "range" p2) [a] [] p3] X.env = (false, eval (.Call (.Name "range" p2) [a] [] p3) X.env) :: starEach [] X.env := by rfl) :
    PE X (.Call (.Name "tuple" p) [.Call (.Name "range" p2) [a] [] p3] [] pos) (tD X.K (fTupR fa)) :=
  pe_imp (pe_tupRg hc hg hm (prg_1 hg2 hm2 ha na) nb) fun σ H Q ⟨ρ, d, hs, ⟨n, h1, h2, h3⟩, q⟩ => by
    subst h3
    refine ⟨ρ, _, hs, h1, fun v H1 e1 hv => ⟨(n : Int), dp_int hv, RgOk.of_le (Int.le_refl _) (by omega) (by omega) (by omega), fun l hl => q _ _ (e1.trans (Evl.Ex.new hl)) (dp_tup_at upd_same ?_)⟩⟩
    unfold rgV
    rw [show ((n : Int) - 0).toNat = n by omega]
    have aux : ∀ (H2 : Hp) (l : List Nat), DpAll X.K H2 (l.map fun i => V.int (0 + (i : Nat))) (l.map dN) := by
      intro H2 l
      induction l with
      | nil => exact .nil
      | cons i l ih =>
        rw [List.map_cons, List.map_cons]
        refine .cons ?_ ih
        rw [show (0 : Int) + (i : Nat) = (i : Int) by omega]
        exact .int _
    exact aux _ _
end
end Mx
/-! MxD: defs of the text by name. -/
namespace Mx
open PySem PySem.Spec PyProof.Rows L2
/-- the def st stands at the module's name x -/
def DefAt (K : PySem.W.Frag) (mg : Str → Option Value) (x : Str) (st : Stmt) (ps : List Str) : Prop := ∃ f fd, Fun K x x st f fd ∧ mg x = some (.ref f) ∧ Binds K fd ps []
/-- .. and keeps the promise sp -/
def Has (P : Program) (w : World) (K : PySem.W.Frag) (mg : Str → Option Value) (base : Heap) (k : Nat) (x : Str) (ps : List Str) (sp : Sp) : Prop :=
  ∃ f fd, FnOk P w K mg base CX0 k f fd ps sp ∧ mg x = some (.ref f) ∧ PySem.W.keepIn K (.ref f) = true ∧ Binds K fd ps []
section
variable {P : Program} {w : World} {K : PySem.W.Frag} {mg : Str → Option Value} {base : Heap}
theorem Has.mono {j k : Nat} {x : Str} {ps : List Str} {sp : Sp} (h : Has P w K mg base j x ps sp) (hk : j ≤ k) : Has P w K mg base k x ps sp :=
  let ⟨f, fd, F, a, b, c⟩ := h
  ⟨f, fd, F.mono hk, a, b, c⟩
theorem Has.imp {k : Nat} {x : Str} {ps : List Str} {sp sp' : Sp} (h : Has P w K mg base k x ps sp) (i : ∀ vs H Q E, sp' vs H Q E → sp vs H Q E) : Has P w K mg base k x ps sp' :=
  let ⟨f, fd, F, a, b, c⟩ := h
  ⟨f, fd, F.imp i, a, b, c⟩
theorem has_of {x : Str} {st : Stmt} {N ps : List Str} {k : Nat} {sp : Sp} (D : DefAt K mg x st ps) (S : FnScope N ps (defScope st)) (len : ∀ vs H Q E, sp vs H Q E → vs.length = ps.length)
    (hbody : ∀ (f : Addr) (cdv : Value) (A : Around) (outer : List Env) (s : Shared) (H : Hp) (vs : List V) (Q : VK) (E : XK), Room k (A.deeper (envOfC x (defScope st) s.heap.objs.size f cdv)) → sp vs H Q E →
      ∃ t, PSs (cxOf CX0 P w K mg base N x (defScope st) f cdv A outer s H E).nox (defBody st) t ∧ t { nx := fun _ H' => Q .non H', rt := Q } (start N vs) H) : Has P w K mg base (k + 1) x ps sp := by
  obtain ⟨f, fd, F, hm, hb⟩ := D
  exact ⟨f, fd, F.ok S len (hbody f), hm, F.kp, hb⟩
theorem lenD {g : List PyData → PyData → Prop} {n : Nat} (h : ∀ ds d, g ds d → ds.length = n) : ∀ vs H Q E, spD K g vs H Q E → vs.length = n := fun vs H Q E ⟨ds, d, hv, hg, _⟩ => by
  rw [dps_len hv]
  exact h ds d hg
end
section
variable {X : Cx} {k j : Nat} {ps : List Str} {g : List PyData → PyData → Prop} {x : Str} {p pos : Pos} {e : Expr} {es : List Expr} {fs : DSt → List PyData → Prop} {sp : Sp} {t : TA}
theorem de_def (F : Has X.prog X.w X.K X.mg X.base k x ps (spD X.K g)) (hr : Room j X.A) (hk : k ≤ j) (hg : Gl X x)
    (ha : PA X (e :: es) (tDA X.K fs)) (hdb : (x == ("__debug__" : Str)) = false := by decide) (he : starEach (e :: es) X.env = (false, eval e X.env) :: starEach es X.env := by rfl) (hpl : (backTo pos (starEach es X.env)).any (·.1) = false := by rfl) :
    PE X (.Call (.Name x p) (e :: es) [] pos) (tD X.K (fCall g fs)) := by
  obtain ⟨f, fd, F, hm, hkp, hb⟩ := F
  exact de_fn F (hr.mono hk) hg hm hkp hb ha hdb he hpl
theorem pe_def (F : Has X.prog X.w X.K X.mg X.base k x ps sp) (hr : Room j X.A) (hk : k ≤ j) (hg : Gl X x) (ha : PA X (e :: es) t)
    (hdb : (x == ("__debug__" : Str)) = false := by decide) (he : starEach (e :: es) X.env = (false, eval e X.env) :: starEach es X.env := by rfl) (hpl : (backTo pos (starEach es X.env)).any (·.1) = false := by rfl) :
    PE X (.Call (.Name x p) (e :: es) [] pos) (fun σ H Q => t σ H fun vs H1 => sp vs H1 Q E0) := by
  obtain ⟨f, fd, F, hm, hkp, hb⟩ := F
  refine pe_imp (pe_call (E := E0) F (hr.mono hk) hg hm hkp hb .nil pass0 ha hdb he hpl) fun σ H Q h => ?_
  show t σ H fun vs H1 => sp (vs ++ []) H1 Q E0
  have e : (fun (vs : List V) (H1 : Hp) => sp (vs ++ []) H1 Q E0) = fun vs H1 => sp vs H1 Q E0 := by
    funext vs H1
    rw [List.append_nil]
  rw [e]
  exact h
end
theorem bT {p : Prop} [Decidable p] (h : p) : PyData.bool true = .bool (decide p) := by rw [decide_eq_true h]
theorem bF {p : Prop} [Decidable p] (h : ¬ p) : PyData.bool false = .bool (decide p) := by rw [decide_eq_false h]
theorem iE {a b : Int} (h : a = b) : PyData.int a = .int b := congrArg _ h
theorem gEq_int (a b : Int) : gEq (.int a) (.int b) (.bool (decide (a = b))) := ⟨by rfl, by rfl, by
  by_cases h : a = b
  · subst h
    simp [PyData.eqv]
  · simp [PyData.eqv, h]⟩
theorem gEq_intF {a b : Int} (h : a ≠ b) : gEq (.int a) (.int b) (.bool false) := by
  have := gEq_int a b
  rw [decide_eq_false h] at this
  exact this
theorem gEq_intT {a b : Int} (h : a = b) : gEq (.int a) (.int b) (.bool true) := by
  have := gEq_int a b
  rw [decide_eq_true h] at this
  exact this
theorem kit_ii : kitB "int" "int" = some true := by decide +kernel
theorem kit_ib : kitB "int" "bool" = some false := by decide +kernel
theorem kit_it : kitB "int" "tuple" = some false := by decide +kernel
theorem kit_il : kitB "int" "list" = some false := by decide +kernel
theorem kit_is : kitB "int" "str" = some false := by decide +kernel
theorem kit_tt : kitB "tuple" "tuple" = some true := by decide +kernel
theorem kit_tl : kitB "tuple" "list" = some false := by decide +kernel
theorem bt_int : bootBuiltins "int" = some (.type "int") := by decide +kernel
theorem bt_bool : bootBuiltins "bool" = some (.type "bool") := by decide +kernel
theorem bt_tuple : bootBuiltins "tuple" = some (.type "tuple") := by decide +kernel
theorem bt_list : bootBuiltins "list" = some (.type "list") := by decide +kernel
theorem bt_str : bootBuiltins "str" = some (.type "str") := by decide +kernel
theorem bb_all : bootBuiltins "all" = some (.builtin "all") := by decide +kernel
theorem bb_any : bootBuiltins "any" = some (.builtin "any") := by decide +kernel
theorem bb_sum : bootBuiltins "sum" = some (.builtin "sum") := by decide +kernel
theorem bb_min : bootBuiltins "min" = some (.builtin "min") := by decide +kernel
theorem bb_sorted : bootBuiltins "sorted" = some (.builtin "sorted") := by decide +kernel
theorem bb_len : bootBuiltins "len" = some (.builtin "len") := by decide +kernel
/-- a statement by data: x = e -/
theorem asg_D {K : PySem.W.Frag} {f : DSt → PyData → Prop} {i : Nat} {D : Ends} {σ : L2.St} {H : Hp} {ρ : DSt} {d : PyData} (hs : SD K H σ ρ) (hf : f ρ d) (k : ∀ v H', Ex H H' → Dp K H' v d → D.nx (σ.set i (some v)) H') : tAsg (tD K f) (gName i) D σ H := ⟨ρ, d, hs, hf, k⟩
theorem if_D {K : PySem.W.Frag} {f : DSt → Bool → Prop} {D : Ends} {σ : L2.St} {H : Hp} {ρ : DSt} {t u : TS} (b : Bool) (hs : SD K H σ ρ) (hf : f ρ b) (k1 : b = true → ∀ H', Ex H H' → t D σ H') (k2 : b = false → ∀ H', Ex H H' → u D σ H') : tIfS (tDT K f) t u D σ H := ⟨ρ, b, hs, hf, fun H' e => by
  cases b with
  | true => rw [if_pos rfl]; exact k1 rfl H' e
  | false => rw [if_neg Bool.false_ne_true]; exact k2 rfl H' e⟩
theorem ret_D {K : PySem.W.Frag} {f : DSt → PyData → Prop} {D : Ends} {σ : L2.St} {H : Hp} {ρ : DSt} {d : PyData} (hs : SD K H σ ρ) (hf : f ρ d) (k : ∀ v H', Ex H H' → Dp K H' v d → D.rt v H') : tRet (tD K f) D σ H := ⟨ρ, d, hs, hf, k⟩
theorem drop_D {K : PySem.W.Frag} {f : DSt → PyData → Prop} {D : Ends} {σ : L2.St} {H : Hp} {ρ : DSt} {d : PyData} (hs : SD K H σ ρ) (hf : f ρ d) (k : ∀ v H', Ex H H' → Dp K H' v d → D.nx σ H') : tDrop (tD K f) D σ H := ⟨ρ, d, hs, hf, k⟩
end Mx
/-! MxE: a dict that remembers: keys are nested tuples of ints, the values are read in a part G of the heap. -/
namespace Mx
open PySem PySem.Spec PyProof.Rows L2

mutual
theorem key_of_reads {h : Heap} : ∀ (k : NestedKey) (v : Value) (as : List Addr), Reads h v k.data as → NestedIs h k v
  | .none, _, _, r => by
    simp only [NestedKey.data] at r
    cases r
    exact .none
  | .num i, _, _, r => by
    simp only [NestedKey.data] at r
    cases r
    exact .int _ _
  | .text x, _, _, r => by
    simp only [NestedKey.data] at r
    cases r
    exact .text _ _
  | .tup ks, _, _, r => by
    simp only [NestedKey.data] at r
    cases r with
    | tuple h1 h2 h3 h4 => exact .tup h1 h2 h3 (keys_of_reads ks _ _ h4)
theorem keys_of_reads {h : Heap} : ∀ (ks : List NestedKey) (vs : List Value) (as : List Addr), ReadsAll h vs (NestedKey.datas ks) as → NestedAll h ks vs
  | [], _, _, r => by
    simp only [NestedKey.datas] at r
    cases r
    exact .nil
  | k :: ks, _, _, r => by
    simp only [NestedKey.datas] at r
    cases r with
    | cons h1 h2 => exact .cons (key_of_reads k _ _ h1) (keys_of_reads ks _ _ h2)
end
theorem dp_key {X : Cx} {pins : List (Addr × Obj)} {σ : L2.St} {H : Hp} {s : Shared} {a : Addr} {k : NestedKey} (I : Inv X pins σ H s) (h : Dp X.K H (.ref a) k.data) (hd : k.depth ≤ 8) : (nestedKind X.prog X.w).is s.heap k a := by
  obtain ⟨as, r⟩ := Dp.reads I k.data (.ref a) (.ref a) h rfl
  exact ⟨key_of_reads k _ as r, hd⟩

/-- the entries of the dict at d -/
def rawD (P : Program) (w : World) (d : Addr) (xs : List (NestedKey × Addr × Value)) : Heap → Prop := fun h => ∃ o es ep, h.get? d = some o ∧ o.ExactDict ∧ o.data = .dict es ep ∧ es.toList = xs.map (entryOfKey (nestedKind P w))
def rawO (P : Program) (w : World) (d : Addr) (xs : List (NestedKey × Addr × Value)) : HO := .ext (rawD P w d xs)
theorem rawO_ok {P : Program} {w : World} {H : Hp} {h : Heap} {d : Addr} {xs : List (NestedKey × Addr × Value)} (r : rawD P w d xs h) : ObjOk P w H h d (rawO P w d xs) := by
  obtain ⟨o, es, ep, e, r⟩ := r
  exact ⟨⟨o, es, ep, e, r⟩, ⟨o, e⟩, fun h1 h2 ⟨o, es, ep, e, r⟩ k => ⟨o, es, ep, k _ e, r⟩⟩
structure MemoX (P : Program) (w : World) (K : PySem.W.Frag) (U : List NestedKey) (rd : V → NestedKey → Prop) (H : Hp) (d : Addr) (xs : List (NestedKey × Addr × Value)) : Prop where
  at_ : H d = some (rawO P w d xs)
  sys : (d == sysModules) = false
  nodup : (xs.map (·.1)).Nodup
  key : ∀ x ∈ xs, Dp K H (.ref x.2.1) x.1.data ∧ noL x.1.data = true ∧ x.1.depth ≤ 8 ∧ x.1 ∈ U
  val_ : ∀ x ∈ xs, ∃ v, RelV v x.2.2 ∧ rd v x.1
/-- at d stands a dict all of whose entries are right -/
def Memo (P : Program) (w : World) (K : PySem.W.Frag) (U : List NestedKey) (rd : V → NestedKey → Prop) (H : Hp) (d : Addr) : Prop := ∃ xs, MemoX P w K U rd H d xs
/-- .. and k is a key of it -/
def MemoAt (P : Program) (w : World) (K : PySem.W.Frag) (U : List NestedKey) (rd : V → NestedKey → Prop) (H : Hp) (d : Addr) (k : NestedKey) : Prop := ∃ xs, MemoX P w K U rd H d xs ∧ ∃ x ∈ xs, x.1 = k
section
variable {P : Program} {w : World} {K : PySem.W.Frag} {U : List NestedKey} {rd rd' : V → NestedKey → Prop} {H H' : Hp} {d : Addr} {k : NestedKey} {xs : List (NestedKey × Addr × Value)}
theorem MemoAt.memo (h : MemoAt P w K U rd H d k) : Memo P w K U rd H d := let ⟨xs, h, _⟩ := h; ⟨xs, h⟩
theorem MemoX.keep (h : MemoX P w K U rd H d xs) (hd : H' d = H d) (hT : ExT K H H') (hG : ∀ v k, rd v k → rd' v k) : MemoX P w K U rd' H' d xs :=
  ⟨by rw [hd]; exact h.at_, h.sys, h.nodup, fun x hx => let ⟨a, b, c⟩ := h.key x hx; ⟨dp_td hT _ _ b a, b, c⟩, fun x hx => let ⟨v, a, c⟩ := h.val_ x hx; ⟨v, a, hG _ _ c⟩⟩
theorem Memo.keep (h : Memo P w K U rd H d) (hd : H' d = H d) (hT : ExT K H H') (hG : ∀ v k, rd v k → rd' v k) : Memo P w K U rd' H' d := let ⟨xs, h⟩ := h; ⟨xs, h.keep hd hT hG⟩
theorem MemoAt.keep (h : MemoAt P w K U rd H d k) (hd : H' d = H d) (hT : ExT K H H') (hG : ∀ v k, rd v k → rd' v k) : MemoAt P w K U rd' H' d k := let ⟨xs, h, q⟩ := h; ⟨xs, h.keep hd hT hG, q⟩
theorem Memo.at_ (h : Memo P w K U rd H d) : ∃ φ, H d = some (.ext φ) := let ⟨xs, h⟩ := h; ⟨_, h.at_⟩
theorem Memo.ex (h : Memo P w K U rd H d) (e : Ex H H') (hG : ∀ v k, rd v k → rd' v k) : Memo P w K U rd' H' d := by
  obtain ⟨φ, hφ⟩ := h.at_
  exact h.keep (by rw [hφ]; exact e _ _ hφ) (Ex.t e) hG
theorem MemoAt.ex (h : MemoAt P w K U rd H d k) (e : Ex H H') (hG : ∀ v k, rd v k → rd' v k) : MemoAt P w K U rd' H' d k := by
  obtain ⟨φ, hφ⟩ := h.memo.at_
  exact h.keep (by rw [hφ]; exact e _ _ hφ) (Ex.t e) hG
theorem MemoX.raw (h : MemoX P w K U rd H d xs) {hp : Heap} (ok : HOk P w H hp) : rawD P w d xs hp := (ok d _ h.at_).1
theorem memo_new (hs : (d == sysModules) = false) (h : H d = some (rawO P w d [])) : Memo P w K U rd H d := ⟨[], ⟨h, hs, List.nodup_nil, fun x hx => (nomatch hx), fun x hx => (nomatch hx)⟩⟩
theorem nodup_len {α : Type} [DecidableEq α] : ∀ {l m : List α}, l.Nodup → (∀ x ∈ l, x ∈ m) → l.length ≤ m.length
  | [], _, _, _ => Nat.zero_le _
  | x :: l, m, hn, hs => by
    rw [List.nodup_cons] at hn
    have hx : x ∈ m := hs x List.mem_cons_self
    have ih := nodup_len (l := l) (m := m.erase x) hn.2 fun y hy => (List.mem_erase_of_ne (fun e => hn.1 (by rw [← e]; exact hy))).mpr (hs y (List.mem_cons_of_mem _ hy))
    have h1 := List.length_erase_of_mem hx
    have h2 : 0 < m.length := List.length_pos_of_mem hx
    rw [List.length_cons]
    omega
theorem MemoX.len (h : MemoX P w K U rd H d xs) : xs.length ≤ U.length := by
  have := nodup_len (l := xs.map (·.1)) (m := U) h.nodup fun k hk => by
    obtain ⟨x, hx, rfl⟩ := List.mem_map.mp hk
    exact (h.key x hx).2.2.2
  simpa using this
end
theorem atKey_mem {K : Type} [DecidableEq K] {xs : List (K × Addr × Value)} {k : K} : (atKey xs k).isSome = true ↔ ∃ x ∈ xs, x.1 = k := by
  unfold atKey
  rw [Option.isSome_map, List.find?_isSome]
  constructor
  · rintro ⟨x, hx, e⟩
    exact ⟨x, hx, of_decide_eq_true e⟩
  · rintro ⟨x, hx, e⟩
    exact ⟨x, hx, decide_eq_true e⟩
theorem atKey_val {K : Type} [DecidableEq K] {xs : List (K × Addr × Value)} {k : K} {p : Addr × Value} (h : atKey xs k = some p) : ∃ x ∈ xs, x.1 = k ∧ x.2 = p := by
  unfold atKey at h
  obtain ⟨x, hx, e⟩ := Option.map_eq_some_iff.mp h
  have h1 := List.find?_some hx
  exact ⟨x, List.mem_of_find?_eq_some hx, of_decide_eq_true (by simpa using h1), e⟩
section
variable {X : Cx} {pins : List (Addr × Obj)} {σ : L2.St} {H : Hp} {s : Shared} {d : Addr} {xs : List (NestedKey × Addr × Value)} {U : List NestedKey} {rd rd' : V → NestedKey → Prop}
theorem memo_dict (I : Inv X pins σ H s) (h : MemoX X.prog X.w X.K U rd H d xs) : s.heap.DictOfH (nestedKind X.prog X.w) d xs := by
  obtain ⟨o, es, ep, e1, e2, e3, e4⟩ := h.raw I.hok
  exact ⟨o, es, ep, e1, e2, e3, e4, fun x hx => dp_key I (h.key x hx).1 (h.key x hx).2.2.1, h.nodup⟩

/-- k not in d -/
def rMNot (P : Program) (w : World) (K : PySem.W.Frag) : R2 := fun y x H Q => ∃ (d : Addr) (ks : List NestedKey) (U : List NestedKey) (rd : V → NestedKey → Prop), x = .ref d ∧ Memo P w K U rd H d ∧ Dp K H y (NestedKey.tup ks).data ∧ (NestedKey.tup ks).depth ≤ 8 ∧
  (MemoAt P w K U rd H d (.tup ks) → Q (.bl false) H) ∧ Q (.bl true) H
/-- d[k], there -/
def rMGet (P : Program) (w : World) (K : PySem.W.Frag) : R2 := fun x y H Q => ∃ (d : Addr) (ks : List NestedKey) (U : List NestedKey) (rd : V → NestedKey → Prop), x = .ref d ∧ MemoAt P w K U rd H d (.tup ks) ∧ Dp K H y (NestedKey.tup ks).data ∧ (NestedKey.tup ks).depth ≤ 8 ∧
  ∀ v, rd v (.tup ks) → Q v H
/-- d[k] = v -/
def rMPut (P : Program) (w : World) (K : PySem.W.Frag) : V → V → V → Hp → (Hp → Prop) → Prop := fun x y v H Q => ∃ (d : Addr) (ks : List NestedKey) (U : List NestedKey) (rd rd' : V → NestedKey → Prop), x = .ref d ∧ Memo P w K U rd H d ∧ Dp K H y (NestedKey.tup ks).data ∧ noL (NestedKey.tup ks).data = true ∧
  (NestedKey.tup ks).depth ≤ 8 ∧ .tup ks ∈ U ∧ U.length < sizeLine ∧ (∀ v k, rd v k → rd' v k) ∧ rd' v (.tup ks) ∧ ∀ H', ExB d H H' → ExT K H H' → MemoAt P w K U rd' H' d (.tup ks) → Q H'
theorem ref_of_key {K : PySem.W.Frag} {H : Hp} {y : V} {ks : List NestedKey} (h : Dp K H y (NestedKey.tup ks).data) : ∃ a, y = .ref a := by
  simp only [NestedKey.data] at h
  cases h with
  | tup _ _ => exact ⟨_, rfl⟩
theorem op_mnot (hu : X.A.units + 64 < cLine) : OpR X (compareOp .NotIn) (rMNot X.prog X.w X.K) := by
  intro pins s σ H y x v u Q I ry rx h
  obtain ⟨d, ks, U, rd, rfl, hm, hy, hd, q1, q2⟩ := h
  obtain ⟨b, rfl⟩ := ref_of_key hy
  obtain rfl : u = Value.ref d := rx
  obtain rfl : v = Value.ref b := ry
  obtain ⟨xs, hm⟩ := hm
  refine wpAny_notIn_heap (show X.A.units + 1 + 8 < cLine by omega) (dp_key I hy hd) hm.sys (memo_dict I hm) ?_
  cases hk : (atKey xs (NestedKey.tup ks)).isSome with
  | true => exact ⟨.bl false, H, I.tok _, rfl, q1 ⟨xs, hm, atKey_mem.mp hk⟩⟩
  | false => exact ⟨.bl true, H, I.tok _, rfl, q2⟩
variable {o i value : Expr} {pos pos' : Pos} {to ti tv : TE}
theorem pe_mget (hu : X.A.units + 64 < cLine) (ho : PE X o to) (hi : PE X i ti) (hs : NoSl i) : PE X (.Subscript o i pos) (tOp (rMGet X.prog X.w X.K) to ti) := by
  refine ⟨fun pins s σ H Q I h => ?_⟩
  refine subD_of PySem.F.slot_dict_getitem.lookup hs (thn (ho.run pins s σ H _ I h) fun u s1 ⟨x, H1, I1, rx, q1⟩ => thn (hi.run pins s1 σ H1 _ I1 q1) fun iv s2 ⟨y, H2, I2, ry, q2⟩ => ?_)
  obtain ⟨d, ks, U, rd, rfl, ⟨xs, hm, hk⟩, hy, hd, q⟩ := q2
  obtain ⟨b, rfl⟩ := ref_of_key hy
  obtain rfl : u = Value.ref d := rx
  obtain rfl : iv = Value.ref b := ry
  have hmd := memo_dict I2 hm
  refine ⟨hmd.typeIs, ?_⟩
  obtain ⟨p, hp⟩ := Option.isSome_iff_exists.mp (atKey_mem.mpr hk)
  obtain ⟨e, he, ek, ep⟩ := atKey_val hp
  obtain ⟨v, rv, hval⟩ := hm.val_ e he
  refine wpAny_getItem_heap (show X.A.units + 1 + 8 < cLine by omega) (dp_key I2 hy hd) hmd hp ?_
  rw [← ep]
  rw [ek] at hval
  exact ⟨v, H2, I2.tok _, rv, q v hval⟩
theorem memo_put {P : Program} {w : World} {K : PySem.W.Frag} {H : Hp} {b : Addr} {v : V} {u : Value} {ks : List NestedKey} (hm : MemoX P w K U rd H d xs) (hy : Dp K H (.ref b) (NestedKey.tup ks).data) (hn : noL (NestedKey.tup ks).data = true) (hd : (NestedKey.tup ks).depth ≤ 8) (hU : .tup ks ∈ U)
    (eG : ∀ v k, rd v k → rd' v k) (hz : rd' v (.tup ks)) (rv : RelV v u) (nd : ((storedH xs (NestedKey.tup ks) b u).map (·.1)).Nodup) : MemoAt P w K U rd' (upd H d (rawO P w d (storedH xs (NestedKey.tup ks) b u))) d (.tup ks) := by
  have hT : ExT K H (upd H d (rawO P w d (storedH xs (NestedKey.tup ks) b u))) := fun a ys q => by
    rcases q with (q | ⟨o, q⟩) | q
    · refine .inl (.inl ?_)
      rw [upd_ne (ne_of q hm.at_ (by intro e; cases e))]
      exact q
    · refine .inl (.inr ⟨o, ?_⟩)
      rw [upd_ne (ne_of q hm.at_ (by intro e; cases e))]
      exact q
    · exact .inr q
  have all : ∀ x ∈ storedH xs (NestedKey.tup ks) b u, (x ∈ xs) ∨ ((∃ y ∈ xs, y.1 = x.1 ∧ y.2.1 = x.2.1) ∧ x.1 = .tup ks ∧ x.2.2 = u) ∨ x = (.tup ks, b, u) := by
    intro x hx
    unfold storedH at hx
    split at hx
    · obtain ⟨y, hy, rfl⟩ := List.mem_map.mp hx
      unfold putAt
      by_cases e : y.1 = .tup ks
      · rw [if_pos e]
        exact .inr (.inl ⟨⟨y, hy, rfl, rfl⟩, e, rfl⟩)
      · rw [if_neg e]
        exact .inl hy
    · rcases List.mem_append.mp hx with hx | hx
      · exact .inl hx
      · exact .inr (.inr (by simpa using hx))
  refine ⟨_, ⟨upd_same, hm.sys, nd, fun x hx => ?_, fun x hx => ?_⟩, ?_⟩
  · rcases all x hx with h | ⟨⟨y, hy', e1, e2⟩, _, _⟩ | h
    · obtain ⟨k1, k2, k3⟩ := hm.key x h
      exact ⟨dp_td hT _ _ k2 k1, k2, k3⟩
    · obtain ⟨k1, k2, k3⟩ := hm.key y hy'
      rw [← e1, ← e2]
      exact ⟨dp_td hT _ _ k2 k1, k2, k3⟩
    · subst h
      exact ⟨dp_td hT _ _ hn hy, hn, hd, hU⟩
  · rcases all x hx with h | ⟨_, e1, e2⟩ | h
    · obtain ⟨v', k1, k3⟩ := hm.val_ x h
      exact ⟨v', k1, eG _ _ k3⟩
    · rw [e1, e2]
      exact ⟨v, rv, hz⟩
    · subst h
      exact ⟨v, rv, hz⟩
  · unfold storedH
    split
    · rename_i hk
      obtain ⟨x, hx, e⟩ := atKey_mem.mp hk
      refine ⟨putAt (.tup ks) u x, List.mem_map.mpr ⟨x, hx, rfl⟩, ?_⟩
      unfold putAt
      rw [if_pos e]
      exact e
    · exact ⟨_, List.mem_append_right _ List.mem_cons_self, rfl⟩
def tMPut (P : Program) (w : World) (K : PySem.W.Frag) (to ti tv : TE) : TS := fun D σ H => tv σ H fun v H1 => to σ H1 fun x H2 => ti σ H2 fun y H3 => rMPut P w K x y v H3 fun H4 => D.nx σ H4
theorem ps_mput (hu : X.A.units + 64 < cLine) (ho : PE X o to) (hi : PE X i ti) (hv : PE X value tv) (hs : swapsWith value (some (.Subscript o i pos')) pos.line X.env = pure false := by rfl) :
    PS X (.Assign [.Subscript o i pos'] value pos) (tMPut X.prog X.w X.K to ti tv) := by
  refine ⟨fun pins s σ H D I h => ?_⟩
  refine wpAny_Assign_Subscript (thn (hv.run pins s σ H _ I h) fun r s1 ⟨v, H1, I1, rv, q1⟩ => thn (ho.run pins s1 σ H1 _ I1 q1) fun u s2 ⟨x, H2, I2, rx, q2⟩ => thn (hi.run pins s2 σ H2 _ I2 q2) fun iv s3 ⟨y, H3, I3, ry, q3⟩ => ?_) hs
  obtain ⟨d, ks, U, rd, rd', rfl, ⟨xs, hm⟩, hy, hn, hd, hU, hUl, eG, hval, q⟩ := q3
  obtain ⟨b, rfl⟩ := ref_of_key hy
  obtain rfl : u = Value.ref d := rx
  obtain rfl : iv = Value.ref b := ry
  have hlen := hm.len
  refine wpAny_setItem_heap (hsz := by omega) (show X.A.units + 1 + 8 < cLine by omega) (dp_key I3 hy hd) (memo_dict I3 hm) fun h' dd' sb => ?_
  obtain ⟨ob, es, ep, hq, h2, h3, h4, _, h5⟩ := dd'
  have I4 : Inv X pins σ (upd H3 d (rawO X.prog X.w d (storedH xs (NestedKey.tup ks) b r))) { s3 with heap := h', toks := s3.toks + (nestedKind X.prog X.w).draws (.tup ks) } :=
    d_write I3 (by rw [hm.at_]; exact True.intro) sb ⟨ob, hq⟩ (rawO_ok ⟨ob, es, ep, hq, h2, h3, h4⟩)
  refine ⟨σ, _, I4, q _ ExB.upd (fun a ys q => ?_) (memo_put hm hy hn hd hU eG hval rv h5)⟩
  rcases q with (q | ⟨o, q⟩) | q
  · refine .inl (.inl ?_)
    rw [upd_ne (ne_of q hm.at_ (by intro e; cases e))]
    exact q
  · refine .inl (.inr ⟨o, ?_⟩)
    rw [upd_ne (ne_of q hm.at_ (by intro e; cases e))]
    exact q
  · exact .inr q
/-- {}, to remember -/
def tMNew (P : Program) (w : World) : TE := fun _ H Q => ∀ p, H p = none → (p == sysModules) = false → Q (.ref p) (upd H p (rawO P w p []))
theorem pe_mnew : PE X (.Dict [] [] pos) (tMNew X.prog X.w) := ⟨fun pins s σ H Q I h =>
  wpAny_Dict_empty ⟨.ref s.heap.objs.size, _, I.laid (a := s.heap.objs.size) (o := rawO X.prog X.w s.heap.objs.size []) (t' := s.toks) (fun _ _ q => Heap.get?_push_of_some _ q) (Nat.le_refl _)
    (rawO_ok ⟨_, #[], 0, Heap.get?_push_size _ rfl, ⟨rfl, rfl, rfl⟩, rfl, rfl⟩), rfl, h _ (I.hok.fresh (Nat.le_refl _)) (beq_eq_false_iff_ne.mpr (Ne.symm (Nat.ne_of_lt I.big)))⟩⟩
end
end Mx
/-! MxF: enumerate over a tuple. -/
namespace PySem
open Sem (wp)
set_option maxHeartbeats 1000000 in
theorem mx_enumerate_newB {v : Value} {o : Obj} {H : Heap → Prop} (B : Begins v o H) :
    Meets (Builtin.«enumerate.__new__» ⟨[.type "enumerate", v], []⟩) (fun _ R s => H s.heap ∧
      R (.ok (.ret (.ref (s.heap.push o).objs.size))) { s with heap := (s.heap.push o).push { cls := .type "enumerate", data := .fields #[.none, .bool false, .ref s.heap.objs.size, rawInt 0, .none, .none] } }) :=
  .of_wp fun prog w A R s h => by
    obtain ⟨hh0, g, d, tk, os⟩ := s; obtain ⟨h1, h⟩ := h
    have hsub := sub_enumerate
    have qB : ∀ {A' : Around} {E : Value → Shared → Prop} {Q : Value → Shared → Prop}, Q (.ref hh0.objs.size) ⟨hh0.push o, g, d, tk, os⟩ → wpAny (model prog w) A' (pyIter v) Q E ⟨hh0, g, d, tk, os⟩ :=
      fun q => B.iter prog w _ _ ⟨hh0, g, d, tk, os⟩ _ h1 q
    wp_walk using qB
    refine wpAny_stack_any fun sTn => wpAny_pure ?_
    split
    · rename_i c _ _ _ _ _
      cases (c == Value.type "enumerate")
      · wp_walk using qB
        exact ⟨_, rfl, h⟩
      · wp_walk using qB
        exact ⟨_, rfl, h⟩
    · wp_walk using qB
      exact ⟨_, rfl, h⟩
section
variable {prog : Program} {w : World} {A : Around} {E : Value → Shared → Prop} {s : Shared}
theorem mx_enum_begins {a : Addr} {o : Obj} {H : Heap → Prop} {Q : Value → Shared → Prop} (B : Begins (.ref a) o H) (h1 : H s.heap)
    (h : ∀ h', IsEnum h' (s.heap.objs.size + 1) s.heap.objs.size 0 .none → h'.get? s.heap.objs.size = some o → h'.objs.size = s.heap.objs.size + 2 →
      (∀ (x : Addr) (ob : Obj), s.heap.get? x = some ob → h'.get? x = some ob) → Q (.ref (s.heap.objs.size + 1)) { s with heap := h' }) :
    wpAny (model prog w) A (call (.type "enumerate") [.ref a]) Q E s := by
  refine callType_new F.called_enumerate (by decide) (F.typeCall_enumerate_1 _) (F.newCall_enumerate_1 _)
    (fun made => F.args_object_init_2 made _) F.entry_enumerate_new
    (mx_enumerate_newB B) ⟨h1, ?_⟩
  have szE : (s.heap.push o).objs.size = s.heap.objs.size + 1 := Heap.size_push ..
  show _ ∧ _
  rw [szE]
  have hEn : IsEnum ((s.heap.push o).push { cls := .type "enumerate", data := .fields #[.none, .bool false, .ref s.heap.objs.size, rawInt 0, .none, .none] }) (s.heap.objs.size + 1) s.heap.objs.size 0 .none := by
    have := Heap.get?_push_size (s.heap.push o) (o := { cls := .type "enumerate", data := .fields #[.none, .bool false, .ref s.heap.objs.size, rawInt 0, .none, .none] }) rfl
    rw [szE] at this
    exact this
  exact ⟨⟨_, hEn, rfl⟩, h _ hEn (Heap.get?_push_of_some _ (Heap.get?_push_size _ B.free)) (by rw [Heap.size_push, szE]) fun b o y => Heap.get?_push_of_some _ (Heap.get?_push_of_some _ y)⟩
theorem mx_enum_endT {e it l : Addr} {i : Nat} {items : Array Value} {was : Value} {Q : Option Value → Shared → Prop} (hh : A.handled = none)
    (hEn : IsEnum s.heap e it i was) (hTi : s.heap.IsTupleIter it l i) (hl : s.heap.IsTuple l items) (hGt : items[i]? = none)
    (hQ : ∀ h', Heap.ExtBut it s.heap h' → Q none { s with heap := h' }) : wpAny (model prog w) A (pyNext (.ref e)) Q E s := by
  have tyE : s.TypeIs (.ref e) "enumerate" := ⟨_, hEn, rfl⟩
  unfold pyNext
  refine wpAny_bind (wpAny_attempt (wpAny_callSpecial?_slot (name := Str.ofString "__next__") tyE F.slot_enumerate_next
    (wpAny_call_entry F.slot_enumerate_next tyE F.entry_enumerate_next ?_ (F.args_enumerate_next_1 _))))
  show wpAny _ _ (field (.ref e) 2 >>= _) _ _ _
  refine wpAny_bind (wpAny_field hEn rfl (x := .ref it) rfl ?_)
  refine wpAny_bind (wpAny_nextOf_tuple_end hh hTi hl hGt fun h' x he' hx' => ?_)
  obtain ⟨o, hOb, cAl⟩ := hx'
  refine wpAny_bind (wpAny_isInstance (T := "StopIteration") (b := true) ⟨o, hOb, cAl⟩ isSubtype_stop ?_)
  exact wpAny_pure (hQ _ he')
end
end PySem
namespace Mx
open PySem PySem.Spec PyProof.Rows L2
def IteT (K : PySem.W.Frag) (a : Addr) : It :=
  ⟨fun i H => ∃ xs x, SqT K H a xs ∧ xs[i]? = some x, fun i H v H' => ∃ T x, v = .ref T ∧ H T = none ∧ H' = upd H T (.tup [.int (i : Nat), x]) ∧ ∀ xs, SqT K H a xs → xs[i]? = some x, fun i H => ∃ xs, SqT K H a xs ∧ xs.length ≤ i⟩
theorem turn_enumT {P : Program} {w : World} {K : PySem.W.Frag} {elts : List Expr} {kk : Nat} {tpos : Pos} (a e it : Addr) :
    Turn P w K (.Tuple elts kk tpos) (IteT K a) [e, it] e (fun i h => (∃ was, IsEnum h e it ((i : Nat) : Int) was) ∧ h.IsTupleIter it a i ∧ e ≠ it ∧ a ≠ it ∧ a ≠ e) where
  mem := by simp
  obj := fun i h sTn b hMb => by
    obtain ⟨⟨was, hEn⟩, ⟨o, hOb, cAl, hDn⟩, _⟩ := sTn
    have hOr : b = e ∨ b = it := by simpa using hMb
    rcases hOr with z | z
    · rw [z]; exact ⟨_, hEn, fun v q => nomatch q⟩
    · rw [z]; exact ⟨o, hOb, fun v q => by rw [hDn] at q; cases q⟩
  keep := fun i h h' sTn k => let ⟨⟨was, hEn⟩, hi, hne⟩ := sTn; ⟨⟨was, k e (by simp) _ hEn⟩, hi.at fun o q => k it (by simp) o q, hne⟩
  item := by
    intro X eP eW eK cAl i pins s σ H E I hFp sTn hGo
    subst eP eW eK
    obtain ⟨⟨was, hEn⟩, hTi, hne, hai, hae⟩ := sTn
    obtain ⟨xs, x, hSq, hGt⟩ := hGo
    obtain ⟨its, rvs, p, szE⟩ := I.tuple hSq
    obtain ⟨u, hu, ru⟩ := rvs.get hGt
    have lE : e < s.heap.objs.size := Heap.lt_size hEn
    have lIt : it < s.heap.objs.size := by obtain ⟨_, q, _⟩ := hTi; exact Heap.lt_size q
    have hlt : i < its.toArray.size := by
      have := (List.getElem?_eq_some_iff.mp hu).1
      simpa using this
    refine wpAny_pyNext_enum_itemD (Draws.tuple (A := X.A.in1) (I.ok.hd cAl) it a hai its.toArray) hEn ⟨hTi, p⟩ hlt hne (by simp [hne, Ne.symm hae]) fun y h' tk hy hOb hit' tyE hsz hk => ?_
    have hy' : y = u := by
      have q : its[i]? = some y := by simpa using hy
      rw [hu] at q
      exact (Option.some.inj q).symm
    subst hy'
    refine ⟨_, rfl, wpAny_letOwnedTupleGo_enum (s := { s with heap := h', toks := tk + 1 }) hOb fun h'' he' sb => ?_⟩
    have hT2 : h''.get? s.heap.objs.size = some { cls := .type "tuple", data := .seq #[.int i tk, y] } := (sb.2 _ (Nat.ne_of_gt lE)).trans tyE
    have fresh : ObjOk X.prog X.w (upd H s.heap.objs.size (.tup [.int (i : Nat), x])) h'' s.heap.objs.size (.tup [.int (i : Nat), x]) :=
      ⟨by show 2 ≤ sizeLine; decide, [.int i tk, y], .cons ⟨_, rfl⟩ (.cons ru .nil), ⟨_, hT2, rfl, _, rfl⟩⟩
    have I1 : Inv X pins σ (upd H s.heap.objs.size (.tup [.int (i : Nat), x])) { s with heap := h'', toks := tk + 1 } :=
      I.turnedNew (ch := [e, it]) (fun b ob hMb q => (sb.2 b (fun z => hMb (by simp [z]))).trans (hk b ob (fun z => hMb (by simp [z])) (fun z => hMb (by simp [z])) q)) hFp (Nat.le_refl _) fresh
    refine ⟨.ref s.heap.objs.size, _, I1, rfl, ⟨_, x, rfl, I.hok.fresh (Nat.le_refl _), rfl, fun ys hy => by rw [I.tuple_inj hy hSq]; exact hGt⟩, ⟨⟨y, ?_⟩, hit'.1.at fun o q => (sb.2 it (Ne.symm hne)).trans q, hne, hai, hae⟩, fun b hMb => ?_⟩
    · have e1 : ((i + 1 : Nat) : Int) = (i : Int) + 1 := by omega
      rw [e1]; exact he'
    · have hb' : b < s.heap.objs.size := by
        have hOr : b = e ∨ b = it := by simpa using hMb
        rcases hOr with z | z
        · rw [z]; exact lE
        · rw [z]; exact lIt
      rw [upd_ne (Nat.ne_of_lt hb')]
      exact (hFp b hMb).1
  done := by
    intro X eP eW eK cAl i pins s σ H E I hFp sTn hGo
    subst eP eW eK
    obtain ⟨⟨was, hEn⟩, hTi, hne, hai, hae⟩ := sTn
    obtain ⟨xs, hSq, hGt⟩ := hGo
    obtain ⟨its, rvs, p, szE⟩ := I.tuple hSq
    obtain ⟨z0, z1, z2, z3, z4, z5⟩ := hFp it (by simp)
    have hl := rvs.length
    exact mx_enum_endT (I.ok.hd cAl) hEn hTi p (by simp; omega) fun h' eb => ⟨rfl, I.turned (t' := s.toks) (fun b o hMb q => eb b o hMb q) z0 z1 z3 z4 z5⟩
  self := fun A i s Q E sTn h => let ⟨⟨_, hEn⟩, _⟩ := sTn; wpAny_pyIter_enum hEn h
def iEnumT (K : PySem.W.Frag) (ta : TE) : TI := fun σ H R => ta σ H fun v H1 => ∃ a xs, v = .ref a ∧ SqT K H1 a xs ∧ R (IteT K a) H1
theorem pi_enumT {X : Cx} {e : Expr} {ta : TE} {p pos tpos : Pos} {elts : List Expr} {kk : Nat} (hGo : Gl X "enumerate") (hm : X.mg "enumerate" = none) (ha : PE X e ta) (hs : starEach [e] X.env = [(false, eval e X.env)] := by rfl) :
    PI X (.Tuple elts kk tpos) (.Call (.Name "enumerate" p) [e] [] pos) (iEnumT X.K ta) := by
  refine ⟨fun pins s σ H R I h => ?_⟩
  have pa : PA X [e] (tCons ta tNil) := pa_cons ha pa_nil (by rw [hs]; rfl)
  refine Call_ (ld_blt I hGo hm boot_enumerate (PyProof.Rows.callWith_type1 (thn (pa.run pos pins s σ H (fun vs H1 => ∃ a xs, vs = [.ref a] ∧ SqT X.K H1 a xs ∧ R (IteT X.K a) H1) I ?_) fun us s1 ⟨vs, H1, I1, r1, qB⟩ => ?_) hs rfl))
  · have h : ta σ H fun v H1 => ∃ a xs, v = .ref a ∧ SqT X.K H1 a xs ∧ R (IteT X.K a) H1 := h
    have e : (fun (x : V) (H1 : Hp) => (fun (vs : List V) (H1 : Hp) => ∃ a xs, vs = [V.ref a] ∧ SqT X.K H1 a xs ∧ R (IteT X.K a) H1) [x] H1) = fun v H1 => ∃ a xs, v = .ref a ∧ SqT X.K H1 a xs ∧ R (IteT X.K a) H1 := by
      funext x H1
      simp
    show ta σ H fun x H1 => (fun (vs : List V) (H1 : Hp) => ∃ a xs, vs = [V.ref a] ∧ SqT X.K H1 a xs ∧ R (IteT X.K a) H1) [x] H1
    rw [e]
    exact h
  obtain ⟨a, xs, ex, hSq, q⟩ := qB
  subst ex
  cases r1 with
  | cons r rr =>
    cases rr
    cases r
    obtain ⟨its, rvs, p', szE⟩ := I1.tuple hSq
    have hlt : a < s1.heap.objs.size := by
      obtain ⟨o, hOb, _⟩ := id p'
      exact Heap.lt_size hOb
    refine mx_enum_begins (begins_tuple a its.toArray) p' fun h' hEn hTi hsz hk => wpAny_pyIter_enum hEn ?_
    have In2 : Inv X pins σ H1 { s1 with heap := h' } := I1.kept (t' := s1.toks) hk
    refine ⟨s1.heap.objs.size + 1, [s1.heap.objs.size + 1, s1.heap.objs.size], _, _, H1, rfl, In2, turn_enumT a (s1.heap.objs.size + 1) s1.heap.objs.size, ⟨⟨.none, hEn⟩, ⟨_, hTi, rfl, rfl⟩, Nat.succ_ne_self _, Nat.ne_of_lt hlt, Nat.ne_of_lt (Nat.lt_succ_of_lt hlt)⟩, fun b hMb => ?_, q⟩
    have hOr : b = s1.heap.objs.size + 1 ∨ b = s1.heap.objs.size := by simpa using hMb
    have hGe : s1.heap.objs.size ≤ b := by
      rcases hOr with z | z
      · rw [z]; exact Nat.le_add_right _ _
      · rw [z]; exact Nat.le_refl _
    exact I1.fpOk hGe (I1.hok.fresh hGe)
/-- for i, x in enumerate(t): Pv by the turn; the pair is fresh -/
theorem for_enumT {K : PySem.W.Frag} {a : Addr} {xs : List V} {g : TG} {tb : TS} {D : Ends} {σ : L2.St} {H : Hp} (Pz : Nat → L2.St → Hp → Prop) (hStart : Pz 0 σ H) (hThere : ∀ i σ H, i ≤ xs.length → Pz i σ H → SqT K H a xs)
    (hStep : ∀ (i : Nat) (x : V) (T : Addr) (σ : L2.St) (H : Hp), xs[i]? = some x → Pz i σ H → H T = none → g (.ref T) σ (upd H T (.tup [.int (i : Nat), x])) fun σ2 H2 => tb { D with nx := Pz (i + 1), ct := Pz (i + 1), bk := D.nx } σ2 H2) (hDn : ∀ σ H, Pz xs.length σ H → D.nx σ H) :
    ∃ W : Nat → Nat → L2.St → Hp → Prop, (∃ m, W 0 m σ H) ∧ ∀ i m σ H, W i m σ H →
      ((IteT K a).stop i H ∧ D.nx σ H) ∨ ((IteT K a).go i H ∧ ∃ N : L2.St → Hp → Prop, (∀ σ' H', N σ' H' → ∃ m', m' < m ∧ W (i + 1) m' σ' H') ∧ ∀ v H', (IteT K a).yld i H v H' → g v σ H' fun σ2 H2 => tb { D with nx := N, ct := N, bk := D.nx } σ2 H2) := by
  refine ⟨fun i m σ H => m = xs.length - i ∧ i ≤ xs.length ∧ Pz i σ H, ⟨xs.length, rfl, Nat.zero_le _, hStart⟩, ?_⟩
  rintro i m σ H ⟨rfl, hi, p⟩
  have q := hThere i σ H hi p
  by_cases hLt : i < xs.length
  · refine .inr ⟨⟨xs, xs[i], q, List.getElem?_eq_getElem hLt⟩, Pz (i + 1), fun σ' H' p' => ⟨xs.length - (i + 1), by omega, rfl, hLt, p'⟩, fun v H' y => ?_⟩
    obtain ⟨T, x, rfl, tyE, rfl, hGt⟩ := y
    exact hStep i x T σ H (hGt xs q) p tyE
  · have e : i = xs.length := by omega
    subst e
    exact .inl ⟨⟨xs, q, Nat.le_refl _⟩, hDn σ H p⟩
end Mx
/-! MxG: sorting told by a coding; rows of neighbors made in a loop. -/
namespace Mx
open PySem PySem.Spec PyProof.Rows L2
theorem getN {st : List Nat} {i : Nat} (h : i < st.length) : (st.map dN)[i]? = some (dN (st.getD i 0)) := by
  rw [List.getElem?_map, List.getElem?_eq_getElem h, List.getD_eq_getElem?_getD, List.getElem?_eq_getElem h]
  rfl
theorem lcOut_none {α : Type} (xs : List α) (h : α → PyData) : lcOut xs (fun _ => false) h = [] := by
  induction xs with
  | nil => rfl
  | cons x xs ih => exact ih
theorem lcOut_all {α : Type} (xs : List α) (h : α → PyData) : lcOut xs (fun _ => true) h = xs.map h := by
  induction xs with
  | nil => rfl
  | cons x xs ih => exact congrArg (h x :: ·) ih
def sortD {α : Type} (enc : α → PyData) (l : List α) : List α := l.mergeSort (PySem.W.dataLe false enc)
theorem sortD_map {α : Type} (enc : α → PyData) (l : List α) : (l.map enc).mergeSort (PySem.W.dataLe false id) = (sortD enc l).map enc := (PySem.W.sort_maps enc fun _ _ _ _ => rfl).symm
theorem sortD_mem {α : Type} {enc : α → PyData} {l : List α} {x : α} : x ∈ sortD enc l ↔ x ∈ l := List.mem_mergeSort
theorem sortD_len {α : Type} {enc : α → PyData} {l : List α} : (sortD enc l).length = l.length := List.length_mergeSort ..
theorem alike_nats : ∀ a b : List Nat, PySem.W.alikeAll (a.map dN) (b.map dN) = true
  | [], _ => by simp [PySem.W.alikeAll]
  | _ :: _, [] => by simp [PySem.W.alikeAll]
  | x :: a, y :: b => by
    rw [List.map_cons, List.map_cons, PySem.W.alikeAll, alike_nats a b]
    rfl
theorem alike_dL (a b : List Nat) : PySem.W.alike (dL a) (dL b) = true := by
  show PySem.W.alikeAll (a.map dN) (b.map dN) = true
  exact alike_nats a b
theorem depth_nats : ∀ a : List Nat, PyData.depthAll (a.map dN) = 0
  | [] => by simp [PyData.depthAll]
  | x :: a => by
    rw [List.map_cons, PyData.depthAll, depth_nats a]
    simp [PyData.depth]
theorem depth_dL (a : List Nat) : (dL a).depth = 1 := by
  show PyData.depthAll (a.map dN) + 1 = 1
  rw [depth_nats]
theorem noL_nats : ∀ a : List Nat, noLs (a.map dN) = true
  | [] => rfl
  | x :: a => by
    rw [List.map_cons, noLs, noL_nats a]
    rfl
theorem noL_dL (a : List Nat) : noL (dL a) = true := noL_nats a
theorem gSortL_nats (l : List Nat) (h : l.length ≤ sizeLine) : gSortL (l.map dN) ((sortD dN l).map dN) :=
  ⟨PySem.W.AllAlike.of fun _ _ => rfl, PySem.W.Sortable.others fun b => ⟨(fun h => nomatch h), (fun _ h => nomatch h)⟩, by rw [List.length_map]; exact h, fun x hx => by
    obtain ⟨y, _, rfl⟩ := List.mem_map.mp hx
    exact (by decide : 0 < 60), (sortD_map dN l).symm⟩
theorem gSortL_dL (l : List (List Nat)) (h : l.length ≤ sizeLine) (hn : ∀ a ∈ l, a ≠ []) : gSortL (l.map dL) ((sortD dL l).map dL) :=
  ⟨PySem.W.AllAlike.of fun a b => alike_dL a b, .inl fun d hd => by
    obtain ⟨a, ha, rfl⟩ := List.mem_map.mp hd
    cases a with
    | nil => exact absurd rfl (hn _ ha)
    | cons x r => exact ⟨dN x, r.map dN, rfl⟩, by rw [List.length_map]; exact h, fun x hx => by
    obtain ⟨y, _, rfl⟩ := List.mem_map.mp hx
    rw [depth_dL]
    decide, (sortD_map dL l).symm⟩
theorem mem_cast (i : Nat) (ns : List Nat) : decide (i ∈ ns) = decide ((i : Int) ∈ ns.map Int.ofNat) := by
  apply decide_eq_decide.mpr
  rw [List.mem_map]
  constructor
  · intro h
    exact ⟨i, h, rfl⟩
  · rintro ⟨a, ha, e⟩
    have e' : (a : Int) = (i : Int) := e
    have : a = i := by omega
    exact this ▸ ha
theorem gInN (i : Nat) (ns : List Nat) : gIn (dN i) (dL ns) (.bool (decide (i ∈ ns))) := ⟨(i : Int), ns.map Int.ofNat, rfl, .inr (by rw [List.map_map]; rfl), by
  congr 1
  exact mem_cast i ns⟩
theorem gNotInN (i : Nat) (ns : List Nat) : gNotIn (dN i) (dL ns) (.bool (!decide (i ∈ ns))) := ⟨(i : Int), ns.map Int.ofNat, rfl, .inr (by rw [List.map_map]; rfl), by
  congr 2
  exact mem_cast i ns⟩
theorem gNotInNL (i : Nat) (ns : List Nat) : gNotIn (dN i) (.list (ns.map dN)) (.bool (!decide (i ∈ ns))) := ⟨(i : Int), ns.map Int.ofNat, rfl, .inl (by rw [List.map_map]; rfl), by
  congr 2
  exact mem_cast i ns⟩

/-! ### rows: a list of lists, grown -/
def vN (n : Nat) : V := .int (n : Int)
theorem dps_nats {K : PySem.W.Frag} {H : Hp} : ∀ (ns : List Nat), DpAll K H (ns.map vN) (ns.map dN)
  | [] => .nil
  | n :: ns => .cons (.int (n : Int)) (dps_nats ns)
theorem nats_dps {K : PySem.W.Frag} {H : Hp} : ∀ {ns : List Nat} {vs : List V}, DpAll K H vs (ns.map dN) → vs = ns.map vN
  | [], _, h => by cases h; rfl
  | n :: ns, _, h => by
    cases h with
    | cons h1 h2 => rw [dp_int h1, nats_dps h2]; rfl
/-- at D a list of new lists that hold rows; H0 knows none of them -/
structure FS (H0 H : Hp) (D : Addr) (ps : List Addr) (rows : List (List Nat)) : Prop where
  at_ : H D = some (.lst (ps.map V.ref))
  len : ps.length = rows.length
  nd : ps.Nodup
  nD : D ∉ ps
  row : ∀ (i : Nat) (p : Addr) (r : List Nat), ps[i]? = some p → rows[i]? = some r → H p = some (.lst (r.map vN))
  f0 : H0 D = none
  fs : ∀ p ∈ ps, H0 p = none
  ex : Ex H0 H
theorem FS.dp {K : PySem.W.Frag} {H0 H : Hp} {D : Addr} {ps : List Addr} {rows : List (List Nat)} (h : FS H0 H D ps rows) : Dp K H (.ref D) (.list (rows.map fun r => .list (r.map dN))) := by
  refine dp_lst_at h.at_ ?_
  have aux : ∀ (qs : List Addr) (rs : List (List Nat)), qs.length = rs.length → (∀ (i : Nat) (p : Addr) (r : List Nat), qs[i]? = some p → rs[i]? = some r → H p = some (.lst (r.map vN))) → DpAll K H (qs.map V.ref) (rs.map fun r => .list (r.map dN)) := by
    intro qs
    induction qs with
    | nil =>
      intro rs hl _
      cases rs with
      | nil => exact .nil
      | cons _ _ => cases hl
    | cons q qs ih =>
      intro rs hl hr
      cases rs with
      | nil => cases hl
      | cons r rs =>
        refine .cons (dp_lst_at (hr 0 q r rfl rfl) (dps_nats r)) (ih rs (by simpa using hl) fun i p r' h1 h2 => hr (i + 1) p r' (by simpa using h1) (by simpa using h2))
  exact aux ps rows h.len h.row
theorem FS.ext {H0 H H' : Hp} {D : Addr} {ps : List Addr} {rows : List (List Nat)} (h : FS H0 H D ps rows) (e : Ex H H') : FS H0 H' D ps rows :=
  ⟨e _ _ h.at_, h.len, h.nd, h.nD, fun i p r a b => e _ _ (h.row i p r a b), h.f0, h.fs, h.ex.trans e⟩
/-- found[a].append(b) -/
theorem FS.app {K : PySem.W.Frag} {H0 H : Hp} {D : Addr} {ps : List Addr} {rows : List (List Nat)} {σ : L2.St} {De : Ends} {i j k a b : Nat} (h : FS H0 H D ps rows) (h1 : σ[i]? = some (some (.ref D))) (h2 : σ[j]? = some (some (.int (a : Int)))) (h3 : σ[k]? = some (some (.int (b : Int))))
    (ha : a < rows.length) (hz : (rows.getD a []).length < 1000) (q : ∀ H', FS H0 H' D ps (rows.set a (rows.getD a [] ++ [b])) → ExT K H H' → De.nx σ H') :
    tDrop (tBM K "list" rAppend (tOp (rIxL K) (tVar i) (tVar j)) (tCons (tVar k) tNil)) De σ H := by
  have hp : ps[a]? = some (ps.getD a 0) := by
    have hl := h.len
    rw [List.getD_eq_getElem?_getD, List.getElem?_eq_getElem (by omega)]
    rfl
  have hr : rows[a]? = some (rows.getD a []) := by
    rw [List.getD_eq_getElem?_getD, List.getElem?_eq_getElem ha]
    rfl
  generalize ps.getD a 0 = p at hp
  generalize rows.getD a [] = r at hr hz q
  have hH := h.row a p r hp hr
  have hv : (ps.map V.ref)[a]? = some (.ref p) := by rw [List.getElem?_map, hp]; rfl
  refine ⟨_, h1, _, h2, D, _, (a : Int), .ref p, rfl, rfl, .inl (.inl h.at_), atI_nat hv, .inl ⟨rfl, _, .inl (.inl hH)⟩, _, h3, p, r.map vN, _, rfl, rfl, hH, by rw [List.length_map]; exact small1000 (by omega), ?_⟩
  have hmem : p ∈ ps := List.mem_of_getElem? hp
  have hpD : p ≠ D := fun e => h.nD (e ▸ hmem)
  refine q _ ⟨?_, by rw [List.length_set]; exact h.len, h.nd, h.nD, fun i' p' r' e1 e2 => ?_, h.f0, h.fs, fun x o e => ?_⟩ ?_
  · rw [upd_ne hpD.symm]
    exact h.at_
  · by_cases he : a = i'
    · subst he
      rw [hp] at e1
      cases e1
      rw [List.getElem?_set_self ha] at e2
      cases e2
      rw [upd_same, List.map_append]
      rfl
    · rw [List.getElem?_set_ne he] at e2
      have hne : p' ≠ p := fun e => he (nd_ix (x := p) h.nd hp (by rw [← e]; exact e1))
      rw [upd_ne hne]
      exact h.row i' p' r' e1 e2
  · rw [upd_ne (ne_of_none e (h.fs p hmem))]
    exact h.ex x o e
  · exact ext_upd hH
theorem FS.snoc {H0 H H' : Hp} {D p : Addr} {ps : List Addr} {rows : List (List Nat)} {r : List Nat} (h : FS H0 H D ps rows) (hp : H p = none) (e : Ex H H') (hp2 : H' p = some (.lst (r.map vN))) : FS H0 (upd H' D (.lst (ps.map V.ref ++ [.ref p]))) D (ps ++ [p]) (rows ++ [r]) := by
  have hpD : p ≠ D := (ne_of_none h.at_ hp).symm
  have hnew : H0 p = none := Evl.fresh_back h.ex hp
  have hl := h.len
  have hmem : p ∉ ps := fun hm => by
    obtain ⟨k, hk⟩ := List.getElem?_of_mem hm
    have hkl : k < ps.length := (List.getElem?_eq_some_iff.mp hk).1
    have := h.row k p rows[k] hk (List.getElem?_eq_getElem (by omega))
    rw [this] at hp
    cases hp
  refine ⟨?_, by simp [hl], ?_, ?_, fun k p' r' h1 h2 => ?_, h.f0, fun p' h' => ?_, fun b o hb => ?_⟩
  · rw [upd_same, List.map_append]
    rfl
  · rw [List.nodup_append]
    exact ⟨h.nd, by simp, fun a ha b hb => by
      rw [List.mem_singleton] at hb
      subst hb
      exact fun e => hmem (e ▸ ha)⟩
  · intro hm
    rcases List.mem_append.mp hm with hm | hm
    · exact h.nD hm
    · exact hpD (List.mem_singleton.mp hm).symm
  · by_cases hk : k < ps.length
    · rw [List.getElem?_append_left hk] at h1
      rw [List.getElem?_append_left (by omega)] at h2
      have hm' := List.mem_of_getElem? h1
      have hneD : p' ≠ D := fun e => h.nD (e ▸ hm')
      rw [upd_ne hneD]
      exact e _ _ (h.row k p' r' h1 h2)
    · have hk2 : k = ps.length := by
        have := (List.getElem?_eq_some_iff.mp h1).1
        simp at this
        omega
      subst hk2
      rw [List.getElem?_append_right (by omega)] at h1 h2
      simp [hl] at h1 h2
      subst h1 h2
      rw [upd_ne hpD]
      exact hp2
  · rcases List.mem_append.mp h' with h' | h'
    · exact h.fs p' h'
    · rw [List.mem_singleton.mp h']
      exact hnew
  · rw [upd_ne (ne_of_none hb h.f0)]
    exact e _ _ (h.ex b o hb)
/-- [[] for room in range(n)] -/
theorem fs_start {K : PySem.W.Frag} {σ : L2.St} {H H1 : Hp} {D : Addr} {j n : Nat} {Q : Hp → Prop} (e1 : Ex H H1) (hD : H1 D = none) (hn : n ≤ 1000) (q : ∀ H' ps, FS H H' D ps (List.replicate n []) → Q H') :
    ∃ W : Nat → Nat → Hp → Prop, (∃ m, W 0 m (upd H1 D (.lst []))) ∧ ∀ i m H', W i m H' →
      ((Itr 0 n).stop i H' ∧ Q H') ∨ ((Itr 0 n).go i H' ∧ ∃ Nx : Hp → Prop, (∀ H', Nx H' → ∃ m', m' < m ∧ W (i + 1) m' H') ∧ ∀ x H2, (Itr 0 n).yld i H' x H2 → gName j x (wipe σ [j]) H2 fun σ2 H2 => wipe σ2 [j] = wipe σ [j] ∧ tYes σ2 H2 fun b H3 =>
        if b = true then tLst tNil σ2 H3 fun y H4 => ∃ acc, H4 D = some (.lst acc) ∧ acc.length < sizeLine ∧ Nx (upd H4 D (.lst (acc ++ [y]))) else Nx H3) := by
  have hD0 : H D = none := Evl.fresh_back e1 hD
  refine lc_range (lo := 0) (n := n) (fun i H' => ∃ ps, ps.length = i ∧ FS H H' D ps (List.replicate i []) ∧ Ex H1 (fun b => if b = D then H1 D else H' b)) ⟨[], rfl, ⟨upd_same, rfl, List.nodup_nil, (fun h => nomatch h), (fun i p r h => by simp at h), hD0, (fun p h => nomatch h), e1.trans (Evl.Ex.new hD)⟩, ?_⟩ (fun i H' hi hp => ?_) fun H' hp => ?_
  · intro b o hb
    have hne : b ≠ D := ne_of_none hb hD
    simp only [if_neg hne]
    rw [upd_ne hne]
    exact hb
  · obtain ⟨ps, hl, fs, eo⟩ := hp
    refine ⟨wipe_one, ?_⟩
    dsimp only [tYes]
    rw [if_pos rfl]
    refine ⟨Nat.zero_le _, fun p hp => ⟨ps.map V.ref, ?_, by rw [List.length_map, hl]; exact small1000 (by omega), ps ++ [p], by simp [hl], ?_, ?_⟩⟩
    · have hne : D ≠ p := ne_of_none fs.at_ hp
      rw [upd_ne hne]
      exact fs.at_
    · have hpD : p ≠ D := (ne_of_none fs.at_ hp).symm
      have hnew : H p = none := Evl.fresh_back fs.ex hp
      have hmem : p ∉ ps := fun hm => by
        obtain ⟨k, hk⟩ := List.getElem?_of_mem hm
        have hkl : k < ps.length := (List.getElem?_eq_some_iff.mp hk).1
        have := fs.row k p [] hk (by rw [List.getElem?_replicate]; simp; omega)
        rw [this] at hp
        cases hp
      refine ⟨?_, by simp [hl], ?_, ?_, fun k p' r h1 h2 => ?_, hD0, fun p' h' => ?_, fun b o hb => ?_⟩
      · rw [upd_same, List.map_append]
        rfl
      · rw [List.nodup_append]
        exact ⟨fs.nd, by simp, fun a ha b hb => by
          rw [List.mem_singleton] at hb
          subst hb
          exact fun e => hmem (e ▸ ha)⟩
      · intro hm
        rcases List.mem_append.mp hm with hm | hm
        · exact fs.nD hm
        · exact hpD (List.mem_singleton.mp hm).symm
      · have hr : r = [] := by
          have := List.mem_of_getElem? h2
          exact (List.mem_replicate.mp this).2
        subst hr
        by_cases hk : k < ps.length
        · rw [List.getElem?_append_left hk] at h1
          have hm' := List.mem_of_getElem? h1
          have hne : p' ≠ p := fun e => hmem (e ▸ hm')
          have hneD : p' ≠ D := fun e => fs.nD (e ▸ hm')
          rw [upd_ne hneD, upd_ne hne]
          exact fs.row k p' [] h1 (by rw [List.getElem?_replicate]; simp; omega)
        · have hk2 : k = ps.length := by
            have := (List.getElem?_eq_some_iff.mp h1).1
            simp at this
            omega
          subst hk2
          simp at h1
          subst h1
          rw [upd_ne hpD, upd_same]
          rfl
      · rcases List.mem_append.mp h' with h' | h'
        · exact fs.fs p' h'
        · rw [List.mem_singleton.mp h']
          exact hnew
      · rw [upd_ne (ne_of_none hb hD0), upd_ne (ne_of_none hb hnew)]
        exact fs.ex b o hb
    · intro b o hb
      have hne : b ≠ D := ne_of_none hb hD
      have hbo := eo b o hb
      simp only [if_neg hne] at hbo ⊢
      have hnp : b ≠ p := ne_of_none hbo hp
      rw [upd_ne hne, upd_ne hnp]
      exact hbo
  · obtain ⟨ps, hl, fs, _⟩ := hp
    exact q H' ps fs
/-- the rows behind some doors -/
def growF (rows : List (List Nat)) (p : Nat × Nat) : List (List Nat) :=
  let r1 := rows.set p.1 (rows.getD p.1 [] ++ [p.2])
  r1.set p.2 (r1.getD p.2 [] ++ [p.1])
def rawNear (n : Nat) (ds : List (Nat × Nat)) : List (List Nat) := ds.foldl growF (List.replicate n [])
theorem growF_len (rows : List (List Nat)) (p : Nat × Nat) : (growF rows p).length = rows.length := by
  unfold growF
  simp
theorem raw_len {rows : List (List Nat)} : ∀ (ds : List (Nat × Nat)), (ds.foldl growF rows).length = rows.length := by
  intro ds
  induction ds generalizing rows with
  | nil => rfl
  | cons p ds ih => rw [List.foldl_cons, ih, growF_len]
theorem grow_at {rows : List (List Nat)} {p : Nat × Nat} (h1 : p.1 < rows.length) (h2 : p.2 < rows.length) (i : Nat) : (growF rows p).getD i [] = rows.getD i [] ++ (if p.1 = i then [p.2] else []) ++ (if p.2 = i then [p.1] else []) := by
  unfold growF
  simp only [List.getD_eq_getElem?_getD]
  by_cases e2 : p.2 = i
  · rw [← e2, List.getElem?_set_self (by simpa using h2)]
    by_cases e1 : p.1 = p.2
    · rw [← e1, List.getElem?_set_self h1]
      simp
    · rw [List.getElem?_set_ne e1]
      simp [e1]
  · rw [List.getElem?_set_ne e2]
    by_cases e1 : p.1 = i
    · rw [← e1, List.getElem?_set_self h1]
      simp [e1, e2]
    · rw [List.getElem?_set_ne e1]
      simp [e1, e2]
theorem grow_le {rows : List (List Nat)} {p : Nat × Nat} (h1 : p.1 < rows.length) (h2 : p.2 < rows.length) {m : Nat} (h : ∀ i, (rows.getD i []).length ≤ m) (i : Nat) : ((growF rows p).getD i []).length ≤ m + 2 := by
  rw [grow_at h1 h2, List.length_append, List.length_append]
  have := h i
  split <;> split <;> simp only [List.length_cons, List.length_nil] <;> omega
def Adj (ds : List (Nat × Nat)) (a b : Nat) : Prop := (a, b) ∈ ds ∨ (b, a) ∈ ds
theorem raw_mem (n : Nat) : ∀ (ds : List (Nat × Nat)) (rows : List (List Nat)) (i j : Nat), rows.length = n → (∀ p ∈ ds, p.1 < n ∧ p.2 < n) → (j ∈ (ds.foldl growF rows).getD i [] ↔ j ∈ rows.getD i [] ∨ Adj ds i j) := by
  intro ds
  induction ds with
  | nil =>
    intro rows i j _ _
    simp [Adj]
  | cons p ds ih =>
    intro rows i j hl hp
    obtain ⟨h1, h2⟩ := hp p List.mem_cons_self
    rw [List.foldl_cons, ih _ i j (by rw [growF_len]; exact hl) fun q hq => hp q (List.mem_cons_of_mem _ hq), grow_at (by omega) (by omega)]
    obtain ⟨a, b⟩ := p
    unfold Adj
    simp only [List.mem_append, List.mem_cons, Prod.mk.injEq]
    constructor
    · rintro ((( h | h) | h) | (h | h))
      · exact .inl h
      · by_cases e : a = i
        · rw [if_pos e] at h
          exact .inr (.inl (.inl ⟨e.symm, by simpa using h⟩))
        · rw [if_neg e] at h
          cases h
      · by_cases e : b = i
        · rw [if_pos e] at h
          exact .inr (.inr (.inl ⟨by simpa using h, e.symm⟩))
        · rw [if_neg e] at h
          cases h
      · exact .inr (.inl (.inr h))
      · exact .inr (.inr (.inr h))
    · rintro (h | (⟨e1, e2⟩ | h) | (⟨e1, e2⟩ | h))
      · exact .inl (.inl (.inl h))
      · refine .inl (.inl (.inr ?_))
        rw [if_pos e1.symm, e2]
        exact List.mem_singleton.mpr rfl
      · exact .inr (.inl h)
      · refine .inl (.inr ?_)
        rw [if_pos e2.symm, e1]
        exact List.mem_singleton.mpr rfl
      · exact .inr (.inr h)
theorem raw_le (n : Nat) : ∀ (ds : List (Nat × Nat)) (rows : List (List Nat)) (m : Nat), rows.length = n → (∀ p ∈ ds, p.1 < n ∧ p.2 < n) → (∀ i, (rows.getD i []).length ≤ m) → ∀ i, ((ds.foldl growF rows).getD i []).length ≤ m + 2 * ds.length := by
  intro ds
  induction ds with
  | nil => intro rows m _ _ h i; simpa using h i
  | cons p ds ih =>
    intro rows m hl hp h i
    obtain ⟨h1, h2⟩ := hp p List.mem_cons_self
    have := ih (growF rows p) (m + 2) (by rw [growF_len]; exact hl) (fun q hq => hp q (List.mem_cons_of_mem _ hq)) (grow_le (by omega) (by omega) h) i
    rw [List.foldl_cons, List.length_cons]
    omega
end Mx
/-! Ma: what the defs compute, over plain lists. -/
namespace Mx
open PySem PySem.Spec PyProof.Rows L2
def dRows (rows : List (List Nat)) : PyData := .list (rows.map fun r => .list (r.map dN))
def nearF (n : Nat) (ds : List (Nat × Nat)) : List (List Nat) := (rawNear n ds).map (sortD dN)
def isLgF (rows : List (List Nat)) (rooms some : List Nat) : Bool := rooms.all fun r => decide (r ∈ some) || (rows.getD r []).any fun o => decide (o ∈ some)
def freeF (rows : List (List Nat)) (r : Nat) (s : List Nat) : Bool := !((rows.getD r []).any fun o => decide (o ∈ s))
def foundF (rows : List (List Nat)) (rooms : List Nat) : List (List Nat) := rooms.foldl (fun fs r => fs ++ (fs.filter (freeF rows r)).map fun s => s ++ [r]) [[]]
def largestF (rows : List (List Nat)) (rooms : List Nat) : List (List Nat) := sortD dL ((foundF rows rooms).filter (isLgF rows rooms))
def leftF (rooms some : List Nat) : List Nat := rooms.filter fun r => !decide (r ∈ some)
structure RowsB (n : Nat) (rows : List (List Nat)) : Prop where
  len : rows.length = n
  le : ∀ r ∈ rows, r.length ≤ 1000
theorem RowsB.get {n : Nat} {rows : List (List Nat)} (h : RowsB n rows) (i : Nat) : (rows.getD i []).length ≤ 1000 := by
  rw [List.getD_eq_getElem?_getD]
  cases e : rows[i]? with
  | none => simp
  | some r => exact h.le r (List.mem_of_getElem? e)
theorem nearB {n : Nat} {ds : List (Nat × Nat)} (h1 : ∀ p ∈ ds, p.1 < n ∧ p.2 < n) (h2 : ds.length ≤ 28) : RowsB n (nearF n ds) := by
  have hl : (rawNear n ds).length = n := by unfold rawNear; rw [raw_len, List.length_replicate]
  refine ⟨by unfold nearF; rw [List.length_map, hl], fun r hr => ?_⟩
  obtain ⟨r0, h0, rfl⟩ := List.mem_map.mp hr
  rw [sortD_len]
  obtain ⟨i, hi⟩ := List.getElem?_of_mem h0
  have := raw_le n ds (List.replicate n []) 0 (by rw [List.length_replicate]) h1 (fun j => by
    rw [List.getD_eq_getElem?_getD, List.getElem?_replicate]
    split <;> simp) i
  rw [List.getD_eq_getElem?_getD] at this
  have e : (ds.foldl growF (List.replicate n []))[i]? = some r0 := hi
  rw [e] at this
  simp at this
  omega
theorem near_mem {n : Nat} {ds : List (Nat × Nat)} (h1 : ∀ p ∈ ds, p.1 < n ∧ p.2 < n) (i j : Nat) : j ∈ (nearF n ds).getD i [] ↔ Adj ds i j := by
  have e : (nearF n ds).getD i [] = sortD dN ((rawNear n ds).getD i []) := by
    unfold nearF
    rw [List.getD_eq_getElem?_getD, List.getElem?_map, List.getD_eq_getElem?_getD]
    cases (rawNear n ds)[i]? with
    | none => exact (List.mergeSort_nil ..).symm
    | some r => rfl
  rw [e, sortD_mem]
  unfold rawNear
  rw [raw_mem n ds _ i j (by rw [List.length_replicate]) h1]
  rw [List.getD_eq_getElem?_getD, List.getElem?_replicate]
  constructor
  · rintro (h | h)
    · split at h <;> simp at h
    · exact h
  · exact .inr
theorem foundF_len (rows : List (List Nat)) : ∀ (rooms : List Nat) (fs : List (List Nat)), (rooms.foldl (fun fs r => fs ++ (fs.filter (freeF rows r)).map fun s => s ++ [r]) fs).length ≤ fs.length * 2 ^ rooms.length := by
  intro rooms
  induction rooms with
  | nil => intro fs; simp
  | cons r rooms ih =>
    intro fs
    rw [List.foldl_cons]
    refine Nat.le_trans (ih _) ?_
    rw [List.length_append, List.length_map, List.length_cons, Nat.pow_succ]
    have := List.length_filter_le (freeF rows r) fs
    calc (fs.length + (fs.filter (freeF rows r)).length) * 2 ^ rooms.length ≤ (fs.length * 2) * 2 ^ rooms.length := Nat.mul_le_mul_right _ (by omega)
      _ = fs.length * (2 ^ rooms.length * 2) := by rw [Nat.mul_assoc, Nat.mul_comm 2]
theorem foundF_le (rows : List (List Nat)) (rooms : List Nat) : (foundF rows rooms).length ≤ 2 ^ rooms.length := by
  have := foundF_len rows rooms [[]]
  simpa [foundF] using this
theorem foundF_take (rows : List (List Nat)) (rooms : List Nat) (i r : Nat) (h : rooms[i]? = some r) : foundF rows (rooms.take (i + 1)) = foundF rows (rooms.take i) ++ ((foundF rows (rooms.take i)).filter (freeF rows r)).map fun s => s ++ [r] := by
  unfold foundF
  rw [List.take_add_one, h, List.foldl_append]
  rfl
theorem largestF_le (rows : List (List Nat)) (rooms : List Nat) : (largestF rows rooms).length ≤ 2 ^ rooms.length := by
  unfold largestF
  rw [sortD_len]
  exact Nat.le_trans (List.length_filter_le _ _) (foundF_le rows rooms)
theorem lg_ne {rows : List (List Nat)} {rooms s : List Nat} (h0 : rooms ≠ []) (h : isLgF rows rooms s = true) : s ≠ [] := by
  rintro rfl
  cases rooms with
  | nil => exact h0 rfl
  | cons r rooms =>
    unfold isLgF at h
    rw [List.all_cons, Bool.and_eq_true] at h
    obtain ⟨h, _⟩ := h
    have e : ((rows.getD r []).any fun o => decide (o ∈ ([] : List Nat))) = false := by
      rw [List.any_eq_false]
      intro x _
      simp
    rw [e] at h
    simp at h
theorem foundF_sub (rows : List (List Nat)) : ∀ (rooms : List Nat) (pre : List Nat) (fs : List (List Nat)), (∀ s ∈ fs, s.Sublist pre) → ∀ s ∈ (rooms.foldl (fun fs r => fs ++ (fs.filter (freeF rows r)).map fun s => s ++ [r]) fs), s.Sublist (pre ++ rooms) := by
  intro rooms
  induction rooms with
  | nil => intro pre fs h s hs; simpa using h s hs
  | cons r rooms ih =>
    intro pre fs h s hs
    rw [List.foldl_cons] at hs
    have := ih (pre ++ [r]) _ (fun t ht => ?_) s hs
    · simpa using this
    · rcases List.mem_append.mp ht with ht | ht
      · exact (h t ht).trans (List.sublist_append_left _ _)
      · obtain ⟨u, hu, rfl⟩ := List.mem_map.mp ht
        exact (h u (List.mem_filter.mp hu).1).append (List.Sublist.refl _)
theorem largestF_sub {rows : List (List Nat)} {rooms s : List Nat} (h : s ∈ largestF rows rooms) : s.Sublist rooms := by
  unfold largestF at h
  rw [sortD_mem] at h
  have := foundF_sub rows rooms [] [[]] (fun t ht => by simp at ht; subst ht; exact List.Sublist.refl _) s (List.mem_filter.mp h).1
  simpa using this
theorem largestF_ne {rows : List (List Nat)} {rooms s : List Nat} (h0 : rooms ≠ []) (h : s ∈ largestF rows rooms) : s ≠ [] := by
  unfold largestF at h
  rw [sortD_mem] at h
  exact lg_ne h0 (List.mem_filter.mp h).2
theorem leftF_len {rows : List (List Nat)} {rooms s : List Nat} (h0 : rooms ≠ []) (h : s ∈ largestF rows rooms) : (leftF rooms s).length < rooms.length := by
  have hs := largestF_sub h
  have hn := largestF_ne h0 h
  unfold leftF
  rw [List.length_filter_lt_length_iff_exists]
  cases s with
  | nil => exact absurd rfl hn
  | cons x s => exact ⟨x, hs.subset List.mem_cons_self, by simp⟩
theorem leftF_sub (rooms s : List Nat) : (leftF rooms s).Sublist rooms := List.filter_sublist
/-- the rows of sets, each largest among what is left -/
def layersF (rows : List (List Nat)) : Nat → List Nat → List (List (List Nat))
  | 0, _ => [[]]
  | k + 1, rooms => if rooms = [] then [[]] else (largestF rows rooms).flatMap fun s => (layersF rows k (leftF rooms s)).map fun l => s :: l
def layB : Nat → Nat
  | 0 => 1
  | k + 1 => 2 ^ (k + 1) * layB k
theorem layB_pos : ∀ k, 0 < layB k
  | 0 => Nat.one_pos
  | k + 1 => Nat.mul_pos (Nat.two_pow_pos _) (layB_pos k)
theorem layB_mono : ∀ {a b : Nat}, a ≤ b → layB a ≤ layB b := by
  intro a b h
  induction b with
  | zero => rw [Nat.le_zero.mp h]; exact Nat.le_refl _
  | succ b ih =>
    by_cases e : a = b + 1
    · rw [e]; exact Nat.le_refl _
    · refine Nat.le_trans (ih (by omega)) ?_
      show layB b ≤ 2 ^ (b + 1) * layB b
      exact Nat.le_mul_of_pos_left _ (Nat.two_pow_pos _)
theorem flat_le {α β : Type} (f : α → List β) (m : Nat) : ∀ l : List α, (∀ a ∈ l, (f a).length ≤ m) → (l.flatMap f).length ≤ l.length * m
  | [], _ => by simp
  | a :: l, h => by
    rw [List.flatMap_cons, List.length_append, List.length_cons, Nat.succ_mul]
    have h1 := h a List.mem_cons_self
    have h2 := flat_le f m l fun b hb => h b (List.mem_cons_of_mem _ hb)
    omega
theorem layersF_len (rows : List (List Nat)) : ∀ (k : Nat) (rooms : List Nat), rooms.length ≤ k → (layersF rows k rooms).length ≤ layB k
  | 0, _, _ => Nat.le_refl _
  | k + 1, rooms, h => by
    unfold layersF
    split
    · exact layB_pos (k + 1)
    · rename_i h0
      refine Nat.le_trans (flat_le _ (layB k) _ fun s hs => ?_) ?_
      · rw [List.length_map]
        exact layersF_len rows k _ (by have := leftF_len h0 hs; omega)
      · show _ ≤ 2 ^ (k + 1) * layB k
        exact Nat.mul_le_mul_right _ (Nat.le_trans (largestF_le rows rooms) (Nat.pow_le_pow_right (by decide) h))
theorem layersF_long (rows : List (List Nat)) : ∀ (k : Nat) (rooms : List Nat) (l : List (List Nat)), l ∈ layersF rows k rooms → l.length ≤ k
  | 0, _, l, h => by
    have : l = [] := by simpa [layersF] using h
    subst this
    exact Nat.le_refl _
  | k + 1, rooms, l, h => by
    unfold layersF at h
    split at h
    · have : l = [] := by simpa using h
      subst this
      exact Nat.zero_le _
    · obtain ⟨s, _, h⟩ := List.mem_flatMap.mp h
      obtain ⟨l', h', rfl⟩ := List.mem_map.mp h
      have := layersF_long rows k _ l' h'
      rw [List.length_cons]
      omega
theorem layersF_in (rows : List (List Nat)) : ∀ (k : Nat) (rooms : List Nat) (l : List (List Nat)), l ∈ layersF rows k rooms → ∀ s ∈ l, s.Sublist rooms
  | 0, rooms, l, h => by
    have : l = [] := by simpa [layersF] using h
    subst this
    intro s hs
    cases hs
  | k + 1, rooms, l, h => by
    unfold layersF at h
    split at h
    · have : l = [] := by simpa using h
      subst this
      intro s hs
      cases hs
    · obtain ⟨s, hs, h⟩ := List.mem_flatMap.mp h
      obtain ⟨l', h', rfl⟩ := List.mem_map.mp h
      intro t ht
      rcases List.mem_cons.mp ht with rfl | ht
      · exact largestF_sub hs
      · exact (layersF_in rows k _ l' h' t ht).trans (leftF_sub rooms s)
/-- enough turns: more change nothing -/
theorem layersF_more (rows : List (List Nat)) : ∀ (k : Nat) (rooms : List Nat), rooms.length ≤ k → layersF rows (k + 1) rooms = layersF rows k rooms
  | 0, rooms, h => by
    have : rooms = [] := List.length_eq_zero_iff.mp (by omega)
    subst this
    rfl
  | k + 1, rooms, h => by
    rw [layersF]
    conv => rhs; rw [layersF]
    split
    · rfl
    · rename_i h0
      have key : ∀ (L : List (List Nat)), (∀ s ∈ L, s ∈ largestF rows rooms) → (L.flatMap fun s => (layersF rows (k + 1) (leftF rooms s)).map fun l => s :: l) = L.flatMap fun s => (layersF rows k (leftF rooms s)).map fun l => s :: l := by
        intro L
        induction L with
        | nil => intro _; rfl
        | cons s L ih =>
          intro hL
          rw [List.flatMap_cons, List.flatMap_cons, ih fun t ht => hL t (List.mem_cons_of_mem _ ht), layersF_more rows k (leftF rooms s) (by have := leftF_len h0 (hL s List.mem_cons_self); omega)]
      exact key _ fun s hs => hs
theorem layersF_any (rows : List (List Nat)) {k m : Nat} {rooms : List Nat} (h1 : rooms.length ≤ k) (h2 : rooms.length ≤ m) : layersF rows k rooms = layersF rows m rooms := by
  have aux : ∀ (j : Nat), layersF rows (rooms.length + j) rooms = layersF rows rooms.length rooms := by
    intro j
    induction j with
    | zero => rfl
    | succ j ih => rw [← Nat.add_assoc, layersF_more rows _ rooms (by omega), ih]
  have e1 := aux (k - rooms.length)
  have e2 := aux (m - rooms.length)
  rw [show rooms.length + (k - rooms.length) = k by omega] at e1
  rw [show rooms.length + (m - rooms.length) = m by omega] at e2
  rw [e1, e2]
def setAll (lvl : Nat) (acc s : List Nat) : List Nat := s.foldl (fun a r => a.set r lvl) acc
def stateF (n : Nat) (l : List (List Nat)) : List Nat := l.zipIdx.foldl (fun a p => setAll p.2 a p.1) (List.replicate n 0)
theorem setAll_len (lvl : Nat) : ∀ (s acc : List Nat), (setAll lvl acc s).length = acc.length := by
  intro s
  induction s with
  | nil => intro acc; rfl
  | cons r s ih =>
    intro acc
    show (setAll lvl (acc.set r lvl) s).length = _
    rw [ih, List.length_set]
theorem stateF_len (n : Nat) (l : List (List Nat)) : (stateF n l).length = n := by
  unfold stateF
  have aux : ∀ (l : List (List Nat × Nat)) (acc : List Nat), (l.foldl (fun a p => setAll p.2 a p.1) acc).length = acc.length := by
    intro l
    induction l with
    | nil => intro acc; rfl
    | cons p l ih => intro acc; rw [List.foldl_cons, ih, setAll_len]
  rw [aux, List.length_replicate]
def restsF (n : Nat) (ds : List (Nat × Nat)) : List (List Nat) := sortD dL ((layersF (nearF n ds) n (List.range n)).map (stateF n))
def dLay (l : List (List Nat)) : PyData := .tuple (l.map dL)
def subs : List Nat → List (List Nat)
  | [] => [[]]
  | x :: xs => subs xs ++ (subs xs).map (x :: ·)
theorem subs_len : ∀ l : List Nat, (subs l).length = 2 ^ l.length
  | [] => rfl
  | x :: l => by
    rw [subs, List.length_append, List.length_map, subs_len l, List.length_cons, Nat.pow_succ]
    omega
theorem subs_mem : ∀ {l s : List Nat}, s.Sublist l → s ∈ subs l := by
  intro l s h
  induction h with
  | slnil => exact List.mem_cons_self
  | cons a h ih => exact List.mem_append_left _ ih
  | cons_cons a h ih => exact List.mem_append_right _ (List.mem_map.mpr ⟨_, ih, rfl⟩)
def nK (r : Nat) : NestedKey := .num (r : Int)
def kT (rooms : List Nat) : NestedKey := .tup (rooms.map nK)
def kP (rooms : List Nat) (lvl : Nat) : NestedKey := .tup [kT rooms, .num (lvl : Int)]
theorem datas_nums : ∀ rooms : List Nat, NestedKey.datas (rooms.map nK) = rooms.map dN
  | [] => rfl
  | r :: rooms => by
    rw [List.map_cons, NestedKey.datas, datas_nums rooms]
    rfl
theorem data_kT (rooms : List Nat) : (kT rooms).data = dL rooms := by
  unfold kT
  rw [NestedKey.data, datas_nums]
theorem data_kP (rooms : List Nat) (lvl : Nat) : (kP rooms lvl).data = .tuple [dL rooms, dN lvl] := by
  unfold kP
  simp only [NestedKey.data, NestedKey.datas, data_kT]
theorem depth_nums : ∀ rooms : List Nat, NestedKey.depthAll (rooms.map nK) = 0
  | [] => rfl
  | r :: rooms => by
    rw [List.map_cons, NestedKey.depthAll, depth_nums rooms]
    rfl
theorem depth_kT (rooms : List Nat) : (kT rooms).depth = 1 := by
  unfold kT
  rw [NestedKey.depth, depth_nums]
theorem depth_kP (rooms : List Nat) (lvl : Nat) : (kP rooms lvl).depth = 2 := by
  unfold kP
  simp [NestedKey.depth, NestedKey.depthAll, depth_kT]
theorem kT_inj {a b : List Nat} (h : kT a = kT b) : a = b := by
  unfold kT at h
  injection h with h
  have aux : ∀ (a b : List Nat), a.map nK = b.map nK → a = b := by
    intro a
    induction a with
    | nil => intro b h; cases b with
      | nil => rfl
      | cons _ _ => cases h
    | cons x a ih =>
      intro b h
      cases b with
      | nil => cases h
      | cons y b =>
        rw [List.map_cons, List.map_cons] at h
        injection h with h1 h2
        unfold nK at h1
        injection h1 with h1
        rw [ih b h2, show x = y by omega]
  exact aux a b h
theorem kP_inj {a b : List Nat} {i j : Nat} (h : kP a i = kP b j) : a = b ∧ i = j := by
  unfold kP at h
  injection h with h
  injection h with h1 h2
  injection h2 with h2 _
  injection h2 with h2
  exact ⟨kT_inj h1, by omega⟩
end Mx
/-! MxH: small words over readings; defs that hand back a new list. -/
namespace Mx
open PySem PySem.Spec PyProof.Rows L2
theorem fOrV_mk {fa fb : DSt → PyData → Prop} {ρ : DSt} {a b : Bool} (h1 : fa ρ (.bool a)) (h2 : a = false → fb ρ (.bool b)) : fOrV fa fb ρ (.bool (a || b)) := ⟨a, h1, by
  cases a with
  | false => exact h2 rfl
  | true => rfl⟩
theorem fAndV_mk {fa fb : DSt → PyData → Prop} {ρ : DSt} {a b : Bool} (h1 : fa ρ (.bool a)) (h2 : a = true → fb ρ (.bool b)) : fAndV fa fb ρ (.bool (a && b)) := ⟨a, h1, by
  cases a with
  | true => exact h2 rfl
  | false => rfl⟩
theorem fOr_mk {fa fb : DSt → Bool → Prop} {ρ : DSt} {a b : Bool} (h1 : fa ρ a) (h2 : a = false → fb ρ b) : fOr fa fb ρ (a || b) := ⟨a, h1, by
  cases a with
  | false => exact h2 rfl
  | true => rfl⟩
theorem fAnd_mk {fa fb : DSt → Bool → Prop} {ρ : DSt} {a b : Bool} (h1 : fa ρ a) (h2 : a = true → fb ρ b) : fAnd fa fb ρ (a && b) := ⟨a, h1, by
  cases a with
  | true => exact h2 rfl
  | false => rfl⟩
theorem map_bools {α : Type} (xs : List α) (b : α → Bool) : lcOut xs (fun _ => true) (fun x => PyData.bool (b x)) = (xs.map b).map PyData.bool := by
  rw [lcOut_all, List.map_map]
  rfl
theorem gAny_map {α : Type} (xs : List α) (b : α → Bool) : gAny [.list (lcOut xs (fun _ => true) fun x => .bool (b x))] (.bool (xs.any b)) := ⟨xs.map b, by rw [map_bools], by rw [List.any_map]; rfl⟩
theorem gAll_map {α : Type} (xs : List α) (b : α → Bool) : gAll [.list (lcOut xs (fun _ => true) fun x => .bool (b x))] (.bool (xs.all b)) := ⟨xs.map b, by rw [map_bools], by rw [List.all_map]; rfl⟩
theorem gIx_rows {n : Nat} {rows : List (List Nat)} (h : RowsB n rows) {r : Nat} (hr : r < n) : gIx (dRows rows) (dN r) (.list ((rows.getD r []).map dN)) := ⟨_, r, .inl rfl, rfl, by
  rw [List.getElem?_map, List.getD_eq_getElem?_getD, List.getElem?_eq_getElem (by rw [h.len]; exact hr)]
  rfl⟩
theorem gIx_T {st : List Nat} {i : Nat} (h : i < st.length) : gIx (dL st) (dN i) (dN (st.getD i 0)) := ⟨_, i, .inr rfl, rfl, getN h⟩
theorem shaped_dL (a : List Nat) : SeqAt.shaped (dL a) = true := by
  unfold SeqAt.shaped
  rw [depth_dL]
  have : (dL a).canLay0 = true := by
    show PyData.canLayAll0 (a.map dN) = true
    induction a with
    | nil => rfl
    | cons x a ih =>
      rw [List.map_cons, PyData.canLayAll0, ih]
      rfl
  rw [this]
  rfl
theorem eqv_dL : ∀ a b : List Nat, PyData.eqv (dL a) (dL b) = decide (a = b) := by
  intro a b
  show PyData.eqv (.tuple (a.map dN)) (.tuple (b.map dN)) = _
  rw [PyData.eqv]
  have aux : ∀ (a b : List Nat), PyData.eqvAll (a.map dN) (b.map dN) = decide (a = b) := by
    intro a
    induction a with
    | nil =>
      intro b
      cases b with
      | nil => simp [PyData.eqvAll]
      | cons y b => simp [PyData.eqvAll]
    | cons x a ih =>
      intro b
      cases b with
      | nil => simp [PyData.eqvAll]
      | cons y b =>
        rw [List.map_cons, List.map_cons, PyData.eqvAll, ih b]
        by_cases h : x = y
        · subst h
          simp [PyData.eqv]
        · have h' : ¬ ((x : Int) = (y : Int)) := by omega
          simp [PyData.eqv, h, h']
  exact aux a b
theorem gEq_dL (a b : List Nat) : gEq (dL a) (dL b) (.bool (decide (a = b))) := ⟨shaped_dL a, shaped_dL b, by rw [eqv_dL]⟩
theorem gNe_dL (a b : List Nat) : gNe (dL a) (dL b) (.bool (!decide (a = b))) := ⟨shaped_dL a, shaped_dL b, by rw [eqv_dL]⟩

/-! ### a def that hands back a new list -/
def spL (K : PySem.W.Frag) (g : List PyData → List PyData → Prop) : Sp := fun vs H Q _ => ∃ ds es, DpAll K H vs ds ∧ g ds es ∧ ∀ p acc H', H p = none → Ex H H' → H' p = some (.lst acc) → DpAll K H' acc es → Q (.ref p) H'
def fCallL (g : List PyData → List PyData → Prop) (fs : DSt → List PyData → Prop) : DSt → List PyData → Prop := fun ρ es => ∃ ds, fs ρ ds ∧ g ds es
theorem lenL {K : PySem.W.Frag} {g : List PyData → List PyData → Prop} {n : Nat} (h : ∀ ds d, g ds d → ds.length = n) : ∀ vs H Q E, spL K g vs H Q E → vs.length = n := fun vs H Q E ⟨ds, d, hv, hg, _⟩ => by
  rw [dps_len hv]
  exact h ds d hg
section
variable {X : Cx} {k j : Nat} {ps : List Str} {g : List PyData → List PyData → Prop} {x : Str} {p pos : Pos} {e : Expr} {es : List Expr} {fs : DSt → List PyData → Prop}
theorem dl_def (F : Has X.prog X.w X.K X.mg X.base k x ps (spL X.K g)) (hr : Room j X.A) (hk : k ≤ j) (hg : Gl X x)
    (ha : PA X (e :: es) (tDA X.K fs)) (hdb : (x == ("__debug__" : Str)) = false := by decide) (he : starEach (e :: es) X.env = (false, eval e X.env) :: starEach es X.env := by rfl) (hpl : (backTo pos (starEach es X.env)).any (·.1) = false := by rfl) :
    PE X (.Call (.Name x p) (e :: es) [] pos) (tDL X.K (fCallL g fs)) := pe_imp (pe_def F hr hk hg ha hdb he hpl) fun σ H Q ⟨ρ, rs, hs, ⟨ds, h1, h2⟩, q⟩ =>
      ⟨ρ, ds, hs, h1, fun vs H1 e1 hvs => ⟨ds, rs, hvs, h2, fun p acc H2 hp e2 h3 h4 => q p acc H2 (Evl.fresh_back e1 hp) (e1.trans e2) h3 h4⟩⟩
end
theorem retL_D {K : PySem.W.Frag} {f : DSt → List PyData → Prop} {D : Ends} {σ : L2.St} {H : Hp} {ρ : DSt} {es : List PyData} (hs : SD K H σ ρ) (hf : f ρ es) (k : ∀ p acc H', H p = none → Ex H H' → H' p = some (.lst acc) → DpAll K H' acc es → D.rt (.ref p) H') : tRet (tDL K f) D σ H := ⟨ρ, es, hs, hf, k⟩
theorem noLs_of {ds : List PyData} (h : ∀ d ∈ ds, noL d = true) : noLs ds = true := by
  induction ds with
  | nil => rfl
  | cons d ds ih =>
    rw [noLs, h d List.mem_cons_self, ih fun e he => h e (List.mem_cons_of_mem _ he)]
    rfl
end Mx
/-! MxM: {**a, **b} of two dicts whose keys are ints or texts. -/
namespace Mx
open PySem PySem.Spec PyProof.Rows L2
section
variable {prog : Program} {w : World} {A : Around} {E : Value → Shared → Prop} {s : Shared}
theorem mm_dictPut {α : Type} [DecidableEq α] {kn : KeyKind prog w α} {d : Addr} {kvs : List (α × Value)} {k : α} {u v : Value} {Q : Unit → Shared → Prop} (hu : kn.is k u = true)
    (hsz : kvs.length ≤ sizeLine) (hm : s.heap.DictOf kn d kvs) (hQ : ∀ g, g.DictOf kn d (stored kvs k v) → Heap.SameBut d s.heap g → Q () { s with heap := g }) :
    wpAny (model prog w) A (dictPut d (kn.hash k) u v) Q E s := by
  obtain ⟨ob, ents, n, at1, ex1, da1, ks1, pr1, nd1⟩ := hm
  have small : ents.size ≤ sizeLine := by
    have l1 := pr1.length
    rw [Array.length_toList] at l1
    omega
  have same : (ents.findIdx? fun e => kn.is k e.key) = kvs.findIdx? fun kv => decide (kv.1 = k) := by
    rw [← pr1.findIdx k]
    cases ents
    rw [List.findIdx?_toArray]
  unfold dictPut
  refine wpAny_bind (wpAny_dictFind_of hu at1 da1 ks1 ?_)
  cases found : ents.findIdx? fun e => kn.is k e.key with
  | some i =>
    have inK := any_of_findIdx_some (same ▸ found)
    refine wpAny_updateDict at1 da1 (hQ _ ⟨_, _, n, Heap.get?_update_self _ at1 (Obj.isFreed_of_dict (Obj.data_mapDict da1 _)), ex1.mapDict _, Obj.data_mapDict da1 _, ks1.modify _ _, ?_, ?_⟩
      (Heap.SameBut.update ..))
    · rw [stored, if_pos inK]
      have at2 : (ents.toList.findIdx? fun e => kn.is k e.key) = some i := by
        rw [← found]
        cases ents
        rw [List.findIdx?_toArray]
      have r := pr1.modify nd1 at2 v
      rw [Array.toList_modify]
      exact r
    · rw [stored, if_pos inK, keys_map_store]
      exact nd1
  | none =>
    have notIn : k ∉ kvs.map (·.1) := not_mem_of_findIdx_none (same ▸ found)
    have notAny : ¬ (kvs.any fun kv => decide (kv.1 = k)) = true := fun a => by
      obtain ⟨p, hp, ep⟩ := List.any_eq_true.mp a
      exact notIn (List.mem_map.mpr ⟨p, hp, of_decide_eq_true ep⟩)
    refine wpAny_updateDictKeys (hz := small) at1 da1 (hQ _ ⟨_, _, n + 1, Heap.get?_update_self _ at1 (Obj.isFreed_of_dict (Obj.data_mapDictKeys da1 _)), ex1.mapDictKeys _, Obj.data_mapDictKeys da1 _, ks1.push hu _, ?_, ?_⟩
      (Heap.SameBut.update ..))
    · rw [stored, if_neg notAny, Array.toList_push]
      exact pr1.append hu (kn.hash k) v
    · rw [stored, if_neg notAny, List.map_append, List.nodup_append]
      refine ⟨nd1, by simp, fun a ha b hb eab => ?_⟩
      rw [List.map_singleton, List.mem_singleton] at hb
      subst eab hb
      exact notIn ha
theorem mm_noref (k : Key) (a : Addr) : ¬ (mixKind prog w).is k (.ref a) = true := by
  intro h
  cases k <;> exact nomatch h
theorem mm_merge {d o : Addr} {kvs more : List (Key × Value)} {Q : Unit → Shared → Prop} (hdo : d ≠ o) (hoS : (o == sysModules) = false)
    (hd : s.heap.DictOf (mixKind prog w) d kvs) (ho : s.heap.DictOf (mixKind prog w) o more)
    (hQ : ∀ h', h'.DictOf (mixKind prog w) d (merged kvs more) → h'.DictOf (mixKind prog w) o more → Heap.SameBut d s.heap h' → Q () { s with heap := h' })
    (hsz : kvs.length + more.length ≤ sizeLine) :
    wpAny (model prog w) A (mergeMapping d (.ref o) false) Q E s := by
  obtain ⟨oD, aD, nD, gD, xD, tD1, kD1, pD1, uD1⟩ := id hd
  obtain ⟨oM, aM, nM, gM, xM, tM, kM, pM, uM⟩ := id ho
  have lenM : more.length = aM.size := by rw [← pM.length]; simp
  unfold mergeMapping
  refine wpAny_bind (wpAny_isInstance ho.typeIs isSubtype_dict_dict ?_)
  rw [if_pos rfl]
  refine wpAny_bind (wpAny_specialOf ho.typeIs PySem.F.slot_dict_iter.lookup ?_)
  refine wpAny_bind (wpAny_pure ?_)
  simp only [beq_self_eq_true]
  rw [if_neg (by rw [hoS]; exact Bool.false_ne_true)]
  refine wpAny_bind (wpAny_dictEntries gD tD1 ?_)
  have loop : wpAny (model prog w) A (do
      let l ← dictEntries o
      let epoch ← dictEpoch o
      forIn (List.range l.size) PUnit.unit fun i (_ : PUnit) => (do
          let l' ← dictEntries o
          match l'[i]? with
            | some e => do
              holding [e.key, e.val] (dictPut d e.hash e.key e.val)
              let ep' ← dictEpoch o
              if (ep' != epoch) = true then do
                  (unsupported "dict.changed-during-merge" : Sem PUnit)
                  pure (ForInStep.yield PUnit.unit)
                else pure (ForInStep.yield PUnit.unit)
            | _ => do
              (unsupported "dict.changed-during-merge" : Sem PUnit)
              pure (ForInStep.yield PUnit.unit) : Sem (ForInStep PUnit))
      pure ()) Q E s := by
    refine wpAny_bind (wpAny_dictEntries gM tM ?_)
    refine wpAny_bind (wpAny_dictEpoch gM tM ?_)
    refine wpAny_bind ?_
    rw [List.range_eq_range']
    refine wpAny_forIn_list _
      (fun rest _ s' => ∃ h' i, s' = { s with heap := h' } ∧ rest = List.range' i (aM.size - i) ∧ i ≤ aM.size ∧ h'.DictOf (mixKind prog w) d (merged kvs (more.take i)) ∧ h'.get? o = some oM ∧ Heap.SameBut d s.heap h')
      _ ?_ ?_ _ _ ⟨s.heap, 0, rfl, by simp, Nat.zero_le _, by simpa [merged] using hd, gM, Heap.SameBut.refl _ _⟩
    · rintro x rest b s' ⟨h', i, rfl, hr, hi, hD2, gM', hS2⟩
      have hlt : i < aM.size := by
        rcases Nat.lt_or_ge i aM.size with h | h
        · exact h
        · rw [Nat.sub_eq_zero_of_le h] at hr; simp at hr
      obtain ⟨rfl, hRest⟩ : x = i ∧ rest = List.range' (i + 1) (aM.size - (i + 1)) := by
        have e : aM.size - i = (aM.size - (i + 1)) + 1 := by omega
        rw [e, List.range'_succ] at hr
        injection hr with h1 h2
        exact ⟨h1, h2⟩
      refine wpAny_bind (wpAny_dictEntries gM' tM ?_)
      rw [Array.getElem?_eq_getElem hlt]
      obtain ⟨kv, hKV⟩ : ∃ kv, more[x]? = some kv := ⟨more[x]'(by rw [lenM]; exact hlt), List.getElem?_eq_getElem _⟩
      obtain ⟨k, v⟩ := kv
      obtain ⟨hKey, hVal⟩ := pM.get? (e := aM[x]) (by simp [hlt]) hKV
      obtain ⟨k', hKey2, hHash⟩ := kM aM[x] (Array.getElem_mem hlt)
      obtain rfl : k' = k := (mixKind prog w).inj _ _ _ hKey2 hKey
      show wpAny _ _ (holding [aM[x].key, aM[x].val] (dictPut d aM[x].hash aM[x].key aM[x].val) >>= _) _ _ _
      rw [hHash, hVal]
      have hMx : (merged kvs (more.take x)).length ≤ sizeLine := by
        have e1 := merged_length_le kvs (more.take x)
        have e2 : (more.take x).length ≤ more.length := by rw [List.length_take]; omega
        omega
      refine wpAny_bind (wpAny_holding (mm_dictPut hKey hMx hD2 fun h'' hD3 hS3 => ?_))
      have gM2 : h''.get? o = some oM := (hS3.2 o (Ne.symm hdo)).trans gM'
      refine wpAny_bind (wpAny_dictEpoch gM2 tM ?_)
      rw [if_neg (by simp)]
      exact wpAny_pure ⟨h'', x + 1, rfl, hRest, hlt, by rw [merged_take_succ kvs more x (k', v) hKV]; exact hD3, gM2, hS2.trans hS3⟩
    · rintro b s' ⟨h', i, rfl, hr, hi, hD2, gM', hS2⟩
      have hin : i = aM.size := by
        rcases Nat.lt_or_ge i aM.size with h | h
        · have e : aM.size - i = (aM.size - (i + 1)) + 1 := by omega
          rw [e, List.range'_succ] at hr; exact nomatch hr
        · exact Nat.le_antisymm hi h
      refine wpAny_pure (hQ h' ?_ ⟨oM, aM, nM, gM', xM, tM, kM, pM, uM⟩ hS2)
      rw [hin, ← lenM, List.take_length] at hD2; exact hD2
  simp only [Bool.false_eq_true, if_false]
  split
  · refine wpAny_bind (wpAny_dictEntries gM tM ?_)
    refine wpAny_bind ?_
    rw [← Array.forIn_toList]
    refine wpAny_forIn_list _ (fun rest _ s' => s' = s ∧ ∀ e ∈ rest, ∃ k, (mixKind prog w).is k e.key = true) _ ?_ ?_ _ _ ⟨rfl, fun e he => let ⟨k, h, _⟩ := kM e (Array.mem_toList_iff.mp he); ⟨k, h⟩⟩
    · rintro e rest b s' ⟨rfl, hall⟩
      obtain ⟨k, hk⟩ := hall e List.mem_cons_self
      split
      · rename_i a ea
        rw [ea] at hk
        exact absurd hk (mm_noref k a)
      · exact wpAny_pure ⟨rfl, fun e' he => hall e' (List.mem_cons_of_mem _ he)⟩
    · rintro b s' ⟨rfl, _⟩
      exact loop
  · exact loop
end
/-- {**a, **b}: two dicts that stay, keys ints or texts -/
def tDm (ta tb : TE) : TE := fun σ H Q => ∀ p, H p = none → ta σ (upd H p (.dK [])) fun x H1 => ∃ a1 k1, x = .ref a1 ∧ a1 ≠ p ∧ H1 p = some (.dK []) ∧ H1 a1 = some (.dK k1) ∧ k1.length ≤ 1000 ∧
  tb σ (upd H1 p (.dK (mergeK [] k1))) fun y H2 => ∃ a2 k2, y = .ref a2 ∧ a2 ≠ p ∧ H2 p = some (.dK (mergeK [] k1)) ∧ H2 a2 = some (.dK k2) ∧ k2.length ≤ 1000 ∧ Q (.ref p) (upd H2 p (.dK (mergeK (mergeK [] k1) k2)))
section
variable {X : Cx} {pos : Pos} {ea eb : Expr} {ta tb : TE}
theorem dm_into {pins : List (Addr × Obj)} {σ : L2.St} {H : Hp} {s : Shared} {A : Around} {E : Value → Shared → Prop} {p o : Addr} {k1 k2 : List (Key × V)} {Q : Unit → Shared → Prop} (I : Inv X pins σ H s) (pM : o ≠ p) (h1 : H p = some (.dK k1)) (h2 : H o = some (.dK k2)) (hz : k1.length + k2.length ≤ sizeLine)
    (h : ∀ s', Inv X pins σ (upd H p (.dK (mergeK k1 k2))) s' → Q () s') : wpAny (model X.prog X.w) A (mergeMapping p (.ref o) false) Q E s := by
  obtain ⟨_, hd, vs, rel, dd⟩ := dk_of I.hok h1
  obtain ⟨_, ho, ws, rel2, do_⟩ := dk_of I.hok h2
  refine mm_merge (Ne.symm pM) ho dd do_ (fun h' dd' _ hs => h { s with heap := h' } ?_) (by rw [← rel.length, ← rel2.length]; exact hz)
  have he : ∃ q, h'.get? p = some q := let ⟨q, _, _, hq, _⟩ := dd'; ⟨q, hq⟩
  exact d_write I (by rw [h1]; exact True.intro) hs he (dk_new (Nat.le_trans (length_mergeK _ _) hz) hd (rel2.merge rel) dd')
theorem pe_dm (ha : PE X ea ta) (hb : PE X eb tb) : PE X (.Dict [none, none] [ea, eb] pos) (tDm ta tb) := by
  refine ⟨fun pins s σ H Q I q => ?_⟩
  have hn := I.hok.fresh (Nat.le_refl s.heap.objs.size)
  have In1 := I.laid (a := s.heap.objs.size) (o := .dK []) (h' := s.heap.push { cls := .type "dict", data := .dict #[] }) (t' := s.toks) (fun _ _ q => Heap.get?_push_of_some _ q) (Nat.le_refl _) (dk_empty s.heap I.big)
  rw [arm_eval_Dict]
  refine wpAny_bind (wpAny_standAt ?_)
  have q1 := q _ hn
  generalize hp : s.heap.objs.size = p at q1 hn In1
  unfold dictDisplay
  simp only [evalEachOpt, evalEach, evalOpt, List.map_cons, List.map_nil, List.zip_cons_cons, List.zip_nil_right, List.forIn_cons, List.forIn_nil, List.isEmpty_nil, if_true, pure_bind]
  refine wpAny_bind (wpAny_bind (wpAny_bind (wpAny_alloc ?_)))
  rw [hp]
  refine wpAny_bind (wpAny_holding (wpAny_bind (thn (ha.run pins _ σ _ _ In1 q1) fun u s1 ⟨x, H1, I2, rx, a1, k1, ex, hne1, hp1, hk1, hz1, q2⟩ => wpAny_bind (wpAny_standAt (wpAny_pure ?_)))))
  subst ex
  obtain rfl : u = Value.ref a1 := rx
  refine wpAny_bind (wpAny_onRaise (wpAny_tryCatch (wpAny_onRaise (wpAny_holding (dm_into I2 hne1 hp1 hk1 (by rw [sizeLine_eq, List.length_nil]; omega) fun s2 I3 => wpAny_pure ?_)))))
  refine wpAny_bind (wpAny_bind (wpAny_pure ?_))
  refine wpAny_bind (wpAny_holding (wpAny_bind (thn (hb.run pins _ σ _ _ I3 q2) fun u2 s3 ⟨y, H2, I4, ry, a2, k2, ey, hne2, hp2, hk2, hz2, q3⟩ => wpAny_bind (wpAny_standAt (wpAny_pure ?_)))))
  subst ey
  obtain rfl : u2 = Value.ref a2 := ry
  refine wpAny_bind (wpAny_onRaise (wpAny_tryCatch (wpAny_onRaise (wpAny_holding (dm_into I4 hne2 hp2 hk2 (by have := length_mergeK k1 []; rw [List.length_nil] at this; rw [sizeLine_eq]; omega) fun s4 I5 => wpAny_pure ?_)))))
  exact wpAny_pure (wpAny_bind (wpAny_pure (wpAny_pure ⟨.ref p, _, I5, rfl, q3⟩)))
end
end Mx
/-! Mb: what below_in computes; dicts from rooms to levels. -/
namespace Mx
open PySem PySem.Spec PyProof.Rows L2
def okB (st rooms : List Nat) (lvl : Nat) (s : List Nat) : Bool := ((rooms.filter fun r => decide (st.getD r 0 = lvl)).all fun r => decide (r ∈ s)) && s.all fun r => decide (lvl ≤ st.getD r 0)
def belowF (rows : List (List Nat)) (st : List Nat) : Nat → List Nat → Nat → List (List (List Nat))
  | 0, _, _ => [[]]
  | k + 1, rooms, lvl => if rooms = [] then [[]] else ((largestF rows rooms).filter (okB st rooms lvl)).flatMap fun s => (belowF rows st k (leftF rooms s) (lvl + 1)).map fun l => s :: l
theorem belowF_len (rows : List (List Nat)) (st : List Nat) : ∀ (k : Nat) (rooms : List Nat) (lvl : Nat), rooms.length ≤ k → (belowF rows st k rooms lvl).length ≤ layB k
  | 0, _, _, _ => Nat.le_refl _
  | k + 1, rooms, lvl, h => by
    unfold belowF
    split
    · exact layB_pos (k + 1)
    · rename_i h0
      refine Nat.le_trans (flat_le _ (layB k) _ fun s hs => ?_) ?_
      · rw [List.length_map]
        exact belowF_len rows st k _ _ (by have := leftF_len h0 (List.mem_filter.mp hs).1; omega)
      · show _ ≤ 2 ^ (k + 1) * layB k
        exact Nat.mul_le_mul_right _ (Nat.le_trans (List.length_filter_le _ _) (Nat.le_trans (largestF_le rows rooms) (Nat.pow_le_pow_right (by decide) h)))
/-- each is one of the rows of sets -/
theorem belowF_lay (rows : List (List Nat)) (st : List Nat) : ∀ (k : Nat) (rooms : List Nat) (lvl : Nat) (l : List (List Nat)), l ∈ belowF rows st k rooms lvl → l ∈ layersF rows k rooms
  | 0, _, _, _, h => h
  | k + 1, rooms, lvl, l, h => by
    unfold belowF at h
    unfold layersF
    split at h
    · rename_i h0
      rw [if_pos h0]
      exact h
    · rename_i h0
      rw [if_neg h0]
      obtain ⟨s, hs, h⟩ := List.mem_flatMap.mp h
      obtain ⟨l', h', rfl⟩ := List.mem_map.mp h
      exact List.mem_flatMap.mpr ⟨s, (List.mem_filter.mp hs).1, List.mem_map.mpr ⟨l', belowF_lay rows st k _ _ l' h', rfl⟩⟩
theorem belowF_more (rows : List (List Nat)) (st : List Nat) : ∀ (k : Nat) (rooms : List Nat) (lvl : Nat), rooms.length ≤ k → belowF rows st (k + 1) rooms lvl = belowF rows st k rooms lvl
  | 0, rooms, lvl, h => by
    have : rooms = [] := List.length_eq_zero_iff.mp (by omega)
    subst this
    rfl
  | k + 1, rooms, lvl, h => by
    rw [belowF]
    conv => rhs; rw [belowF]
    split
    · rfl
    · rename_i h0
      have key : ∀ (L : List (List Nat)), (∀ s ∈ L, s ∈ largestF rows rooms) → (L.flatMap fun s => (belowF rows st (k + 1) (leftF rooms s) (lvl + 1)).map fun l => s :: l) = L.flatMap fun s => (belowF rows st k (leftF rooms s) (lvl + 1)).map fun l => s :: l := by
        intro L
        induction L with
        | nil => intro _; rfl
        | cons s L ih =>
          intro hL
          rw [List.flatMap_cons, List.flatMap_cons, ih fun t ht => hL t (List.mem_cons_of_mem _ ht), belowF_more rows st k (leftF rooms s) _ (by have := leftF_len h0 (hL s List.mem_cons_self); omega)]
      exact key _ fun s hs => (List.mem_filter.mp hs).1
theorem belowF_any (rows : List (List Nat)) (st : List Nat) {k m : Nat} {rooms : List Nat} {lvl : Nat} (h1 : rooms.length ≤ k) (h2 : rooms.length ≤ m) : belowF rows st k rooms lvl = belowF rows st m rooms lvl := by
  have aux : ∀ (j : Nat), belowF rows st (rooms.length + j) rooms lvl = belowF rows st rooms.length rooms lvl := by
    intro j
    induction j with
    | zero => rfl
    | succ j ih => rw [← Nat.add_assoc, belowF_more rows st _ rooms _ (by omega), ih]
  have e1 := aux (k - rooms.length)
  have e2 := aux (m - rooms.length)
  rw [show rooms.length + (k - rooms.length) = k by omega] at e1
  rw [show rooms.length + (m - rooms.length) = m by omega] at e2
  rw [e1, e2]
/-! ### the dicts -/
abbrev rK (r : Nat) : Key := .inl (r : Int)
def kvs1 (lvl : Nat) (s : List Nat) : List (Key × V) := s.foldl (fun acc r => putK acc (rK r) (vN lvl)) []
def kvF : Nat → List (List Nat) → List (Key × V)
  | _, [] => []
  | lvl, s :: l => mergeK (mergeK [] (kvs1 lvl s)) (kvF (lvl + 1) l)
def lvlO : Nat → List (List Nat) → Nat → Option Nat
  | _, [], _ => none
  | lvl, s :: l, r => (lvlO (lvl + 1) l r).or (if r ∈ s then some lvl else none)
structure KOk (f : Nat → Option Nat) (kvs : List (Key × V)) : Prop where
  ent : ∀ p ∈ kvs, ∃ r n : Nat, p = (rK r, vN n) ∧ f r = some n
  has : ∀ r n : Nat, f r = some n → (rK r, vN n) ∈ kvs
theorem rK_inj {a b : Nat} (h : rK a = rK b) : a = b := by
  injection h with h
  omega
theorem KOk.nil : KOk (fun _ => none) [] := ⟨(fun _ h => nomatch h), (fun _ _ h => nomatch h)⟩
theorem KOk.congr {f g : Nat → Option Nat} {kvs : List (Key × V)} (h : KOk f kvs) (e : ∀ r, g r = f r) : KOk g kvs := by
  have : g = f := funext e
  rw [this]
  exact h
theorem KOk.val {f : Nat → Option Nat} {kvs : List (Key × V)} (h : KOk f kvs) (r n : Nat) (hr : f r = some n) : valV kvs (rK r) = some (vN n) := by
  have hm := h.has r n hr
  have aux : ∀ l : List (Key × V), (∀ p ∈ l, p ∈ kvs) → (rK r, vN n) ∈ l → valV l (rK r) = some (vN n) := by
    intro l
    induction l with
    | nil => intro _ h; cases h
    | cons p l ih =>
      intro hs hm
      by_cases e : p.1 = rK r
      · obtain ⟨r', n', hp, hf⟩ := h.ent p (hs p List.mem_cons_self)
        subst hp
        have er := rK_inj e
        subst er
        rw [hr] at hf
        cases hf
        exact valV_pos rfl
      · rw [valV_neg e]
        refine ih (fun q hq => hs q (List.mem_cons_of_mem _ hq)) ?_
        rcases List.mem_cons.mp hm with hm | hm
        · exact absurd (by rw [← hm]) e
        · exact hm
  exact aux kvs (fun _ h => h) hm
theorem KOk.put {f : Nat → Option Nat} {kvs : List (Key × V)} (h : KOk f kvs) (r n : Nat) : KOk (fun x => if x = r then some n else f x) (putK kvs (rK r) (vN n)) := by
  unfold putK
  split
  · rename_i ha
    refine ⟨fun p hp => ?_, fun x m hx => ?_⟩
    · obtain ⟨q, hq, rfl⟩ := List.mem_map.mp hp
      obtain ⟨r', n', rfl, hf⟩ := h.ent q hq
      by_cases e : rK r' = rK r
      · rw [if_pos e]
        have := rK_inj e
        subst this
        exact ⟨r', n, rfl, by rw [if_pos rfl]⟩
      · rw [if_neg e]
        exact ⟨r', n', rfl, by rw [if_neg (fun z => e (by rw [z]))]; exact hf⟩
    · by_cases e : x = r
      · rw [if_pos e] at hx
        cases hx
        subst e
        obtain ⟨q, hq, he⟩ := List.any_eq_true.mp ha
        have he := of_decide_eq_true he
        exact List.mem_map.mpr ⟨q, hq, by rw [if_pos he, he]⟩
      · rw [if_neg e] at hx
        exact List.mem_map.mpr ⟨_, h.has x m hx, by rw [if_neg (fun z => e (rK_inj z))]⟩
  · rename_i ha
    refine ⟨fun p hp => ?_, fun x m hx => ?_⟩
    · rcases List.mem_append.mp hp with hq | hq
      · obtain ⟨r', n', ep, hf⟩ := h.ent p hq
        refine ⟨r', n', ep, ?_⟩
        by_cases e : r' = r
        · subst e
          exact absurd ((List.any_eq_true (p := fun kv : Key × V => decide (kv.1 = rK r'))).mpr ⟨p, hq, decide_eq_true (by rw [ep])⟩) ha
        · rw [if_neg e]
          exact hf
      · rw [List.mem_singleton] at hq
        exact ⟨r, n, hq, by rw [if_pos rfl]⟩
    · by_cases e : x = r
      · rw [if_pos e] at hx
        cases hx
        subst e
        exact List.mem_append_right _ (List.mem_singleton.mpr rfl)
      · rw [if_neg e] at hx
        exact List.mem_append_left _ (h.has x m hx)
def hasK (b : List (Key × V)) (r : Nat) : Bool := b.any fun p => decide (p.1 = rK r)
theorem kok_merge {g : Nat → Option Nat} : ∀ (b : List (Key × V)) (f : Nat → Option Nat) (a : List (Key × V)), (∀ p ∈ b, ∃ r n : Nat, p = (rK r, vN n) ∧ g r = some n) → KOk f a → KOk (fun x => if hasK b x = true then g x else f x) (mergeK a b)
  | [], f, a, _, h => h.congr fun r => by simp [hasK]
  | p :: b, f, a, hb, h => by
    obtain ⟨r, n, rfl, hr⟩ := hb p List.mem_cons_self
    have := kok_merge b _ _ (fun q hq => hb q (List.mem_cons_of_mem _ hq)) (h.put r n)
    refine KOk.congr this fun x => ?_
    show (if (decide (rK r = rK x) || hasK b x) = true then g x else f x) = _
    by_cases e1 : hasK b x = true
    · rw [e1, Bool.or_true, if_pos rfl, if_pos rfl]
    · rw [if_neg e1, Bool.eq_false_iff.mpr e1, Bool.or_false]
      by_cases e2 : x = r
      · subst e2
        rw [decide_eq_true rfl, if_pos rfl, if_pos rfl, hr]
      · rw [if_neg e2, if_neg]
        intro hm
        exact e2 (rK_inj (of_decide_eq_true hm).symm)
theorem KOk.merge {f g : Nat → Option Nat} {a b : List (Key × V)} (ha : KOk f a) (hb : KOk g b) : KOk (fun x => (g x).or (f x)) (mergeK a b) := by
  refine (kok_merge b f a hb.ent ha).congr fun x => ?_
  cases hg : g x with
  | none =>
    rw [if_neg]
    · rfl
    · intro hm
      obtain ⟨p, hp, e⟩ := List.any_eq_true.mp hm
      obtain ⟨r, n, rfl, hr⟩ := hb.ent p hp
      have := rK_inj (of_decide_eq_true e)
      subst this
      rw [hg] at hr
      cases hr
  | some n =>
    have : hasK b x = true := List.any_eq_true.mpr ⟨_, hb.has x n hg, decide_eq_true rfl⟩
    rw [if_pos this]
    rfl
theorem kok1 (lvl : Nat) : ∀ (s : List Nat) (f : Nat → Option Nat) (acc : List (Key × V)), KOk f acc → KOk (fun x => if x ∈ s then some lvl else f x) (s.foldl (fun acc r => putK acc (rK r) (vN lvl)) acc)
  | [], f, acc, h => h.congr fun r => by simp
  | r :: s, f, acc, h => by
    refine (kok1 lvl s _ _ (h.put r lvl)).congr fun x => ?_
    by_cases e1 : x ∈ s
    · simp [e1]
    · by_cases e2 : x = r <;> simp [e1, e2]
theorem kok_F : ∀ (lvl : Nat) (l : List (List Nat)), KOk (lvlO lvl l) (kvF lvl l)
  | _, [] => KOk.nil
  | lvl, s :: l => by
    refine ((KOk.nil.merge (kok1 lvl s _ _ KOk.nil)).merge (kok_F (lvl + 1) l)).congr fun x => ?_
    show (lvlO (lvl + 1) l x).or _ = _
    congr 1
    split <;> rfl
theorem len_kvs1 (lvl : Nat) : ∀ (s : List Nat) (acc : List (Key × V)), (s.foldl (fun acc r => putK acc (rK r) (vN lvl)) acc).length ≤ acc.length + s.length
  | [], acc => Nat.le_refl _
  | r :: s, acc => by
    have h1 := len_kvs1 lvl s (putK acc (rK r) (vN lvl))
    have h2 := length_putK acc (rK r) (vN lvl)
    rw [List.foldl_cons, List.length_cons]
    omega
theorem len_kvF {m : Nat} : ∀ (lvl : Nat) (l : List (List Nat)), (∀ s ∈ l, s.length ≤ m) → (kvF lvl l).length ≤ l.length * m
  | _, [], _ => Nat.zero_le _
  | lvl, s :: l, h => by
    have h1 := len_kvF (lvl + 1) l fun t ht => h t (List.mem_cons_of_mem _ ht)
    have h2 := length_mergeK (kvF (lvl + 1) l) (mergeK [] (kvs1 lvl s))
    have h3 := length_mergeK (kvs1 lvl s) []
    have h4 := len_kvs1 lvl s []
    have h5 := h s List.mem_cons_self
    rw [List.length_nil] at h3 h4
    show (mergeK _ _).length ≤ _
    rw [List.length_cons, Nat.succ_mul]
    have h6 : (kvs1 lvl s).length ≤ s.length := by
      have : (kvs1 lvl s).length ≤ 0 + s.length := h4
      omega
    omega
/-! ### the level of a room in the state that is made -/
theorem setAll_get (lvl : Nat) : ∀ (s acc : List Nat) (r : Nat), r < acc.length → (setAll lvl acc s).getD r 0 = if r ∈ s then lvl else acc.getD r 0
  | [], acc, r, h => by simp [setAll]
  | x :: s, acc, r, h => by
    have := setAll_get lvl s (acc.set x lvl) r (by rw [List.length_set]; exact h)
    show (setAll lvl (acc.set x lvl) s).getD r 0 = _
    rw [this]
    by_cases e1 : r ∈ s
    · simp [e1]
    · rw [if_neg e1]
      by_cases e2 : x = r
      · subst e2
        rw [if_pos List.mem_cons_self, List.getD_eq_getElem?_getD, List.getElem?_set_self h]
        rfl
      · rw [List.getD_eq_getElem?_getD, List.getElem?_set_ne e2, if_neg (by
          intro hm
          rcases List.mem_cons.mp hm with hm | hm
          · exact e2 hm.symm
          · exact e1 hm), List.getD_eq_getElem?_getD]
theorem fold_get : ∀ (l : List (List Nat)) (k : Nat) (acc : List Nat) (r : Nat), r < acc.length → ((l.zipIdx k).foldl (fun a p => setAll p.2 a p.1) acc).getD r 0 = (lvlO k l r).getD (acc.getD r 0)
  | [], _, _, _, _ => rfl
  | s :: l, k, acc, r, h => by
    rw [List.zipIdx_cons, List.foldl_cons, fold_get l (k + 1) _ r (by rw [setAll_len]; exact h), setAll_get k s acc r h]
    show _ = ((lvlO (k + 1) l r).or _).getD _
    cases lvlO (k + 1) l r with
    | some n => rfl
    | none =>
      show (if r ∈ s then k else acc.getD r 0) = ((none : Option Nat).or (if r ∈ s then some k else none)).getD (acc.getD r 0)
      split <;> rfl
theorem stateF_get {n : Nat} {l : List (List Nat)} {r : Nat} (h : r < n) : (stateF n l).getD r 0 = (lvlO 0 l r).getD 0 := by
  unfold stateF
  have := fold_get l 0 (List.replicate n 0) r (by rw [List.length_replicate]; exact h)
  rw [show l.zipIdx = l.zipIdx 0 from rfl, this]
  congr 1
  rw [List.getD_eq_getElem?_getD, List.getElem?_replicate]
  split <;> rfl
theorem lvlO_some : ∀ (lvl : Nat) (l : List (List Nat)) (r : Nat), (∃ s ∈ l, r ∈ s) → ∃ n, lvlO lvl l r = some n
  | _, [], _, ⟨_, h, _⟩ => nomatch h
  | lvl, s :: l, r, ⟨t, ht, hr⟩ => by
    show ∃ n, (lvlO (lvl + 1) l r).or _ = some n
    cases h : lvlO (lvl + 1) l r with
    | some n => exact ⟨n, rfl⟩
    | none =>
      rcases List.mem_cons.mp ht with rfl | ht
      · exact ⟨lvl, by rw [if_pos hr]; rfl⟩
      · obtain ⟨n, hn⟩ := lvlO_some (lvl + 1) l r ⟨t, ht, hr⟩
        rw [h] at hn
        cases hn
/-- every room lies in one of the sets -/
theorem layersF_cover (rows : List (List Nat)) : ∀ (k : Nat) (rooms : List Nat), rooms.length ≤ k → ∀ l ∈ layersF rows k rooms, ∀ r ∈ rooms, ∃ s ∈ l, r ∈ s
  | 0, rooms, hk, l, h, r, hr => by
    have : rooms = [] := List.length_eq_zero_iff.mp (by omega)
    subst this
    cases hr
  | k + 1, rooms, hk, l, h, r, hr => by
    unfold layersF at h
    split at h
    · rename_i h0
      subst h0
      cases hr
    · rename_i h0
      obtain ⟨s, hs, h⟩ := List.mem_flatMap.mp h
      obtain ⟨l', h', rfl⟩ := List.mem_map.mp h
      by_cases e : r ∈ s
      · exact ⟨s, List.mem_cons_self, e⟩
      · obtain ⟨t, ht, hrt⟩ := layersF_cover rows k _ (by have := leftF_len h0 hs; omega) l' h' r (by
          unfold leftF
          exact List.mem_filter.mpr ⟨hr, by simp [e]⟩)
        exact ⟨t, List.mem_cons_of_mem _ ht, hrt⟩
end Mx
/-! Mc: costs, least costs, over plain lists. -/
namespace Mx
open PySem PySem.Spec PyProof.Rows L2
def cinF (row : List Nat) (k : Nat) : Nat := row.getD (min k (row.length - 1)) 0
def stepC (cs : List (List Nat)) (lvl : Nat) (s : List Nat) : Nat := (s.map fun r => cinF (cs.getD r []) lvl).sum
def betterF (b : Option Nat) (t : Nat) : Option Nat := match b with
  | none => some t
  | some b => some (if t < b then t else b)
def bestF (ts : List Nat) : Option Nat := ts.foldl betterF none
def leastF (rows cs : List (List Nat)) : Nat → List Nat → Nat → Nat
  | 0, _, _ => 0
  | k + 1, rooms, lvl => if rooms = [] then 0 else (bestF ((largestF rows rooms).map fun s => stepC cs lvl s + leastF rows cs k (leftF rooms s) (lvl + 1))).getD 0
theorem leastF_more (rows cs : List (List Nat)) : ∀ (k : Nat) (rooms : List Nat) (lvl : Nat), rooms.length ≤ k → leastF rows cs (k + 1) rooms lvl = leastF rows cs k rooms lvl
  | 0, rooms, lvl, h => by
    have : rooms = [] := List.length_eq_zero_iff.mp (by omega)
    subst this
    rfl
  | k + 1, rooms, lvl, h => by
    rw [leastF]
    conv => rhs; rw [leastF]
    split
    · rfl
    · rename_i h0
      congr 2
      refine List.map_congr_left fun s hs => ?_
      rw [leastF_more rows cs k (leftF rooms s) _ (by have := leftF_len h0 hs; omega)]
theorem leastF_any (rows cs : List (List Nat)) {k m : Nat} {rooms : List Nat} {lvl : Nat} (h1 : rooms.length ≤ k) (h2 : rooms.length ≤ m) : leastF rows cs k rooms lvl = leastF rows cs m rooms lvl := by
  have aux : ∀ (j : Nat), leastF rows cs (rooms.length + j) rooms lvl = leastF rows cs rooms.length rooms lvl := by
    intro j
    induction j with
    | zero => rfl
    | succ j ih => rw [← Nat.add_assoc, leastF_more rows cs _ rooms _ (by omega), ih]
  have e1 := aux (k - rooms.length)
  have e2 := aux (m - rooms.length)
  rw [show rooms.length + (k - rooms.length) = k by omega] at e1
  rw [show rooms.length + (m - rooms.length) = m by omega] at e2
  rw [e1, e2]
/-! the least of some -/
theorem best_some : ∀ (ts : List Nat) (b : Nat), ∃ m, ts.foldl betterF (some b) = some m ∧ (m = b ∨ m ∈ ts) ∧ m ≤ b ∧ ∀ t ∈ ts, m ≤ t
  | [], b => ⟨b, rfl, .inl rfl, Nat.le_refl _, (fun _ h => nomatch h)⟩
  | t :: ts, b => by
    obtain ⟨m, h1, h2, h3, h4⟩ := best_some ts (if t < b then t else b)
    refine ⟨m, h1, ?_, ?_, ?_⟩
    · rcases h2 with h2 | h2
      · by_cases h : t < b
        · rw [if_pos h] at h2
          exact .inr (h2 ▸ List.mem_cons_self)
        · rw [if_neg h] at h2
          exact .inl h2
      · exact .inr (List.mem_cons_of_mem _ h2)
    · split at h3 <;> omega
    · intro x hx
      rcases List.mem_cons.mp hx with rfl | hx
      · split at h3 <;> omega
      · exact h4 x hx
theorem best_ne {ts : List Nat} (h : ts ≠ []) : ∃ m, bestF ts = some m ∧ m ∈ ts ∧ ∀ t ∈ ts, m ≤ t := by
  cases ts with
  | nil => exact absurd rfl h
  | cons t ts =>
    obtain ⟨m, h1, h2, h3, h4⟩ := best_some ts t
    refine ⟨m, h1, ?_, ?_⟩
    · rcases h2 with rfl | h2
      · exact List.mem_cons_self
      · exact List.mem_cons_of_mem _ h2
    · intro x hx
      rcases List.mem_cons.mp hx with rfl | hx
      · exact h3
      · exact h4 x hx
/-! there is a largest set: each room taken that may be taken -/
def greedy (rows : List (List Nat)) (rooms : List Nat) (s : List Nat) : List Nat := rooms.foldl (fun s r => if freeF rows r s = true then s ++ [r] else s) s
theorem greedy_keep (rows : List (List Nat)) : ∀ (rooms s : List Nat) (x : Nat), x ∈ s → x ∈ greedy rows rooms s
  | [], _, _, h => h
  | r :: rooms, s, x, h => by
    refine greedy_keep rows rooms _ x ?_
    dsimp only
    split
    · exact List.mem_append_left _ h
    · exact h
theorem greedy_found (rows : List (List Nat)) : ∀ (rooms s : List Nat) (fs : List (List Nat)), s ∈ fs → greedy rows rooms s ∈ rooms.foldl (fun fs r => fs ++ (fs.filter (freeF rows r)).map fun s => s ++ [r]) fs
  | [], s, fs, h => h
  | r :: rooms, s, fs, h => by
    refine greedy_found rows rooms _ _ ?_
    dsimp only
    by_cases e : freeF rows r s = true
    · rw [if_pos e]
      exact List.mem_append_right _ (List.mem_map.mpr ⟨s, List.mem_filter.mpr ⟨h, e⟩, rfl⟩)
    · rw [if_neg e]
      exact List.mem_append_left _ h
theorem greedy_lg (rows : List (List Nat)) : ∀ (rooms s : List Nat), ∀ r ∈ rooms, r ∈ greedy rows rooms s ∨ ∃ o ∈ rows.getD r [], o ∈ greedy rows rooms s
  | r0 :: rooms, s, r, hr => by
    rcases List.mem_cons.mp hr with rfl | hr
    · by_cases e : freeF rows r s = true
      · refine .inl (greedy_keep rows rooms _ r ?_)
        dsimp only
        rw [if_pos e]
        exact List.mem_append_right _ List.mem_cons_self
      · refine .inr ?_
        have e' : ((rows.getD r []).any fun o => decide (o ∈ s)) = true := by
          unfold freeF at e
          simpa using e
        obtain ⟨o, ho, hs⟩ := List.any_eq_true.mp e'
        refine ⟨o, ho, greedy_keep rows rooms _ o ?_⟩
        dsimp only
        rw [if_neg e]
        exact of_decide_eq_true hs
    · exact greedy_lg rows rooms _ r hr
theorem isLg_iff {rows : List (List Nat)} {rooms s : List Nat} : isLgF rows rooms s = true ↔ ∀ r ∈ rooms, r ∈ s ∨ ∃ o ∈ rows.getD r [], o ∈ s := by
  unfold isLgF
  rw [List.all_eq_true]
  constructor
  · intro h r hr
    have := h r hr
    rw [Bool.or_eq_true] at this
    rcases this with h | h
    · exact .inl (of_decide_eq_true h)
    · obtain ⟨o, ho, hs⟩ := List.any_eq_true.mp h
      exact .inr ⟨o, ho, of_decide_eq_true hs⟩
  · intro h r hr
    rw [Bool.or_eq_true]
    rcases h r hr with h | ⟨o, ho, hs⟩
    · exact .inl (decide_eq_true h)
    · exact .inr (List.any_eq_true.mpr ⟨o, ho, decide_eq_true hs⟩)
theorem lg_mem {rows : List (List Nat)} {rooms s : List Nat} : s ∈ largestF rows rooms ↔ s ∈ foundF rows rooms ∧ isLgF rows rooms s = true := by
  unfold largestF
  rw [sortD_mem, List.mem_filter]
theorem largestF_some (rows : List (List Nat)) (rooms : List Nat) : largestF rows rooms ≠ [] := by
  have : greedy rows rooms [] ∈ largestF rows rooms := lg_mem.mpr ⟨greedy_found rows rooms [] [[]] List.mem_cons_self, isLg_iff.mpr (greedy_lg rows rooms [])⟩
  intro e
  rw [e] at this
  cases this
/-! the cost of a row of sets; the least one -/
def layC (cs : List (List Nat)) : Nat → List (List Nat) → Nat
  | _, [] => 0
  | lvl, s :: l => stepC cs lvl s + layC cs (lvl + 1) l
theorem least_step (rows cs : List (List Nat)) (k : Nat) {rooms : List Nat} (lvl : Nat) (h0 : rooms ≠ []) : (∃ s ∈ largestF rows rooms, leastF rows cs (k + 1) rooms lvl = stepC cs lvl s + leastF rows cs k (leftF rooms s) (lvl + 1)) ∧
    ∀ s ∈ largestF rows rooms, leastF rows cs (k + 1) rooms lvl ≤ stepC cs lvl s + leastF rows cs k (leftF rooms s) (lvl + 1) := by
  obtain ⟨m, h1, h2, h3⟩ := best_ne (ts := (largestF rows rooms).map fun s => stepC cs lvl s + leastF rows cs k (leftF rooms s) (lvl + 1)) (by
    intro e
    exact largestF_some rows rooms (List.map_eq_nil_iff.mp e))
  rw [leastF, if_neg h0, h1]
  obtain ⟨s, hs, e⟩ := List.mem_map.mp h2
  exact ⟨⟨s, hs, e.symm⟩, fun s hs => h3 _ (List.mem_map.mpr ⟨s, hs, rfl⟩)⟩
theorem least_le (rows cs : List (List Nat)) : ∀ (k : Nat) (rooms : List Nat) (lvl : Nat), ∀ l ∈ layersF rows k rooms, leastF rows cs k rooms lvl ≤ layC cs lvl l
  | 0, _, _, _, _ => Nat.zero_le _
  | k + 1, rooms, lvl, l, h => by
    unfold layersF at h
    split at h
    · rename_i h0
      subst h0
      exact Nat.zero_le _
    · rename_i h0
      obtain ⟨s, hs, h⟩ := List.mem_flatMap.mp h
      obtain ⟨l', h', rfl⟩ := List.mem_map.mp h
      have h1 := (least_step rows cs k lvl h0).2 s hs
      have h2 := least_le rows cs k (leftF rooms s) (lvl + 1) l' h'
      show _ ≤ stepC cs lvl s + layC cs (lvl + 1) l'
      omega
/-- the first set that leads to the least -/
def pickF (rows cs : List (List Nat)) (k : Nat) (rooms : List Nat) (lvl : Nat) : List Nat := ((largestF rows rooms).find? fun s => decide (stepC cs lvl s + leastF rows cs k (leftF rooms s) (lvl + 1) = leastF rows cs (k + 1) rooms lvl)).getD []
def chF (rows cs : List (List Nat)) : Nat → List Nat → Nat → List (List Nat)
  | 0, _, _ => []
  | k + 1, rooms, lvl => if rooms = [] then [] else pickF rows cs k rooms lvl :: chF rows cs k (leftF rooms (pickF rows cs k rooms lvl)) (lvl + 1)
theorem pick_ok (rows cs : List (List Nat)) (k : Nat) {rooms : List Nat} (lvl : Nat) (h0 : rooms ≠ []) : pickF rows cs k rooms lvl ∈ largestF rows rooms ∧ stepC cs lvl (pickF rows cs k rooms lvl) + leastF rows cs k (leftF rooms (pickF rows cs k rooms lvl)) (lvl + 1) = leastF rows cs (k + 1) rooms lvl := by
  obtain ⟨⟨s, hs, e⟩, _⟩ := least_step rows cs k lvl h0
  unfold pickF
  cases hf : (largestF rows rooms).find? fun s => decide (stepC cs lvl s + leastF rows cs k (leftF rooms s) (lvl + 1) = leastF rows cs (k + 1) rooms lvl) with
  | none =>
    have := List.find?_eq_none.mp hf s hs
    rw [decide_eq_true e.symm] at this
    exact absurd rfl this
  | some s' =>
    have h1 := List.find?_some hf
    have h2 := List.mem_of_find?_eq_some hf
    exact ⟨h2, of_decide_eq_true h1⟩
theorem chF_lay (rows cs : List (List Nat)) : ∀ (k : Nat) (rooms : List Nat) (lvl : Nat), chF rows cs k rooms lvl ∈ layersF rows k rooms ∧ layC cs lvl (chF rows cs k rooms lvl) = leastF rows cs k rooms lvl
  | 0, rooms, lvl => ⟨List.mem_cons_self, rfl⟩
  | k + 1, rooms, lvl => by
    by_cases h0 : rooms = []
    · subst h0
      exact ⟨List.mem_cons_self, rfl⟩
    · obtain ⟨h1, h2⟩ := pick_ok rows cs k lvl h0
      obtain ⟨h3, h4⟩ := chF_lay rows cs k (leftF rooms (pickF rows cs k rooms lvl)) (lvl + 1)
      rw [chF, if_neg h0, layersF, if_neg h0]
      refine ⟨List.mem_flatMap.mpr ⟨_, h1, List.mem_map.mpr ⟨_, h3, rfl⟩⟩, ?_⟩
      show stepC cs lvl _ + layC cs (lvl + 1) _ = _
      rw [h4, h2]
/-! keys -/
def uP (n : Nat) : List NestedKey := (subs (List.range n)).flatMap fun r => (List.range 9).map fun l => kP r l
theorem uP_len {n : Nat} (hn : n ≤ 8) : (uP n).length < sizeLine := by
  have h1 : (uP n).length ≤ (subs (List.range n)).length * 9 := flat_le _ 9 _ fun r _ => by simp
  rw [subs_len, List.length_range] at h1
  have h2 : 2 ^ n ≤ 256 := Nat.pow_le_pow_right (by decide) hn
  have h3 : 2304 < sizeLine := by decide
  omega
theorem uP_mem {n : Nat} {rooms : List Nat} {lvl : Nat} (h : rooms.Sublist (List.range n)) (hl : lvl ≤ 8) : kP rooms lvl ∈ uP n := List.mem_flatMap.mpr ⟨rooms, subs_mem h, List.mem_map.mpr ⟨lvl, by rw [List.mem_range]; omega, rfl⟩⟩
end Mx
/-! MxT: tuple * 1 is the tuple. -/
namespace Mx
open PySem PySem.Spec PyProof.Rows L2
theorem mx_mul1 (l : Addr) (its : Array Value) (c : Nat) (dc : Option Addr) (slo : Array (Option Value)) (t : Tok) : Meets (Builtin.«tuple.__mul__» ⟨[.ref l, .int 1 t], []⟩)
    (fun _ R s => s.heap.get? l = some { cls := .type "tuple", dict := dc, data := .seq its c, slots := slo } ∧ R (.ok (.ret (Value.ref l))) s) :=
  .of_wp fun prog w A R s hh => by
    obtain ⟨h0, g, dr, tk, os⟩ := s
    obtain ⟨hat, hq⟩ := hh
    have idx1 := AutoSeq1.idx_int
    wp_walk using wpAny_loadPart' hat
    exact ⟨_, rfl, hq⟩
def rOneT (K : PySem.W.Frag) : R2 := fun x y H Q => ∃ l xs, x = .ref l ∧ y = .int 1 ∧ SqT K H l xs ∧ Q (.ref l) H
theorem op_oneT {X : Cx} : OpR X (binaryOp .Mult) (rOneT X.K) := by
  intro pins s σ H x y v u Q I rx ry ⟨l, xs, hx, hy, hT, q⟩
  subst hx hy
  cases rx
  obtain ⟨t, rfl⟩ := ry
  obtain ⟨its, r, ⟨⟨cls, dc, data, slo⟩, hat, hcl, c, hda⟩, hs⟩ := I.tuple hT
  simp only at hcl hda
  subst hcl hda
  have fin : EP X pins σ Q (.ref l) s := ⟨.ref l, H, I, rfl, q⟩
  refine wpAny_binaryOp_repeat_ref (T := "tuple") (U := "int") (by decide) ⟨_, hat, rfl⟩
    (fun s' => typeIs_int s' 1 t) noFill_tuple_mul PySem.F.fills_int_mul PySem.F.slot_int_rmul repeat_tuple
    PySem.F.slot_int_index.lookup ?_
  refine call_meets PySem.F.slot_int_rmul (typeIs_int s 1 t) PySem.F.entry_int_rmul
    (PySem.F.args_int_rmul_2 _ _) (int_rmul_tuple 1 t l its.toArray c dc slo) ⟨hat, rfl, ⟨_, hat, rfl⟩, ?_⟩
  exact call_meets PySem.F.slot_tuple_mul ⟨_, hat, rfl⟩ PySem.F.entry_tuple_mul
    (PySem.F.args_tuple_mul_2 _ _) (mx_mul1 l its.toArray c dc slo t) ⟨hat, fin⟩
/-- a tuple * n, 1 ≤ n, by data -/
def gRepT : PyData → PyData → PyData → Prop := fun a b d => ∃ (x : PyData) (n : Nat), a = .tuple [x] ∧ b = dN n ∧ 1 ≤ n ∧ n ≤ 1000 ∧ d = .tuple (List.replicate n x)
theorem flat_one {α : Type} (x : α) : ∀ n : Nat, (List.replicate n [x]).flatten = List.replicate n x
  | 0 => rfl
  | n + 1 => by rw [List.replicate_succ, List.flatten_cons, flat_one x n, List.replicate_succ]; rfl
theorem dps_rep {K : PySem.W.Frag} {H : Hp} {v : V} {d : PyData} (h : Dp K H v d) : ∀ n : Nat, DpAll K H (List.replicate n v) (List.replicate n d)
  | 0 => .nil
  | n + 1 => .cons h (dps_rep h n)
theorem OpR.or {X : Cx} {f : Value → Value → Sem Value} {r r' : R2} (h : OpR X f r) (h' : OpR X f r') : OpR X f (fun x y H Q => r x y H Q ∨ r' x y H Q) := by
  intro pins s σ H x y v u Q I rx ry q
  rcases q with q | q
  · exact h pins s σ H x y v u Q I rx ry q
  · exact h' pins s σ H x y v u Q I rx ry q
theorem od_repT {X : Cx} : OpR X (binaryOp .Mult) (rD2 X.K gRepT) := opR_imp (OpR.or op_oneT op_repT) fun x y H Q ⟨dx, dy, d, hx, hy, ⟨z, n, e1, e2, h1, h2, e3⟩, q⟩ => by
  subst e1 e2 e3
  obtain ⟨a, xs, rfl, hs, ha⟩ := dp_tuple hx
  obtain ⟨v, rfl, hz⟩ := dps1 ha
  obtain rfl := dp_int hy
  by_cases h : n = 1
  · subst h
    exact .inl ⟨a, [v], rfl, rfl, hs, q _ H (Evl.Ex.refl H) (.tup hs (.cons hz .nil))⟩
  · refine .inr ⟨a, (n : Int), [v], rfl, rfl, hs, (fun e => nomatch e), by omega, by omega, by show 1 ≤ 1000; decide, fun p hp => q _ _ (Evl.Ex.new hp) ?_⟩
    rw [Int.toNat_natCast, flat_one]
    exact dp_tup_at upd_same (dps_rep (dp_ex (Evl.Ex.new hp) hz) n)
end Mx
/-! P1: checks, houses (need_doors, need_house), keys -/
namespace Mx
open PySem PySem.Spec PyProof.Rows L2
def topS (i : Nat) : Stmt := PySem.Challenge.pw_mexrooms_k74_whole_costs.main.body.getD i (.Pass ⟨0, 0, 0, 0⟩)
section
variable {P : Program} {w : World} {K : PySem.W.Frag} {mg : Str → Option Value} {base : Heap}

abbrev sIsInteger : Stmt := topS 1
theorem sc_is_integer : FnScope ["value"] ["value"] (defScope sIsInteger) := ⟨rfl, rfl, rfl, by decide +kernel, rfl, by decide +kernel, by decide +kernel⟩
def gIsInteger : List PyData → PyData → Prop := fun ds d => ∃ i : Int, ds = [.int i] ∧ d = .bool true
theorem ok_is_integer (D : DefAt K mg "is_integer" sIsInteger ["value"]) (m1 : mg "isinstance" = none) (m2 : mg "int" = none) (m3 : mg "bool" = none) : Has P w K mg base 1 "is_integer" ["value"] (spD K gIsInteger) := by
  refine has_of D sc_is_integer (lenD fun ds d ⟨i, e, _⟩ => by rw [e]; rfl) fun f cdv A outer s H vs Q E hr h => ?_
  obtain ⟨ds, d, hv, ⟨i, rfl, rfl⟩, q⟩ := h
  obtain ⟨v, rfl, h1⟩ := dps1 hv
  refine ⟨_, pss_one (ps_ret (de_and (de_isi (T := "int") rfl m1 (dv 0) rfl m2 bt_int boot_isinstance) (pe_one (de_not (de_isi (T := "bool") rfl m1 (dv 0) rfl m3 bt_bool boot_isinstance))))), ?_⟩
  exact ret_D (sd_cons h1 sd_nil) ⟨true, ⟨_, true, rfl, kit_ii, rfl⟩, ⟨false, ⟨_, false, rfl, kit_ib, rfl⟩, rfl⟩⟩ q

abbrev sIsIn : Stmt := topS 2
theorem sc_is_in : FnScope ["value", "least", "most"] ["value", "least", "most"] (defScope sIsIn) := ⟨rfl, rfl, rfl, by decide +kernel, rfl, by decide +kernel, by decide +kernel⟩
def gIsIn : List PyData → PyData → Prop := fun ds d => ∃ i a b : Int, ds = [.int i, .int a, .int b] ∧ d = .bool (decide (a ≤ i) && decide (i ≤ b))
theorem ok_is_in (D : DefAt K mg "is_in" sIsIn ["value", "least", "most"]) (F1 : Has P w K mg base 1 "is_integer" ["value"] (spD K gIsInteger)) : Has P w K mg base 2 "is_in" ["value", "least", "most"] (spD K gIsIn) := by
  refine has_of D sc_is_in (lenD fun ds d ⟨i, a, b, e, _⟩ => by rw [e]; rfl) fun f cdv A outer s H vs Q E hr h => ?_
  obtain ⟨ds, d, hv, ⟨i, a, b, rfl, rfl⟩, q⟩ := h
  obtain ⟨v1, v2, v3, rfl, h1, h2, h3⟩ := dps3 hv
  refine ⟨_, pss_one (ps_ret (de_and (de_def F1 hr (by decide) rfl (da_cons (dv 0) da_nil)) (pe_one (de_chain od_le od_le (dv 1) (dv 0) (dv 2))))), ?_⟩
  refine ret_D (sd_cons h1 (sd_cons h2 (sd_cons h3 sd_nil))) ⟨true, ⟨_, ⟨_, _, rfl, rfl, rfl⟩, ⟨i, rfl, rfl⟩⟩, ⟨_, _, decide (a ≤ i), rfl, rfl, ⟨_, _, rfl, rfl, rfl⟩, ?_⟩⟩ q
  cases decide (a ≤ i) with
  | true => exact ⟨_, rfl, _, _, rfl, rfl, rfl⟩
  | false => rfl

abbrev sIsList : Stmt := topS 3
theorem sc_is_list : FnScope ["value", "least", "most"] ["value", "least", "most"] (defScope sIsList) := ⟨rfl, rfl, rfl, by decide +kernel, rfl, by decide +kernel, by decide +kernel⟩
def gIsList : List PyData → PyData → Prop := fun ds d => ∃ (xs : List PyData) (a b : Int), ds = [.tuple xs, .int a, .int b] ∧ d = .bool (decide (a ≤ xs.length) && decide ((xs.length : Int) ≤ b))
theorem ok_is_list (D : DefAt K mg "is_list" sIsList ["value", "least", "most"]) (m1 : mg "isinstance" = none) (m2 : mg "tuple" = none) (m3 : mg "len" = none) : Has P w K mg base 1 "is_list" ["value", "least", "most"] (spD K gIsList) := by
  refine has_of D sc_is_list (lenD fun ds d ⟨i, a, b, e, _⟩ => by rw [e]; rfl) fun f cdv A outer s H vs Q E hr h => ?_
  obtain ⟨ds, d, hv, ⟨xs, a, b, rfl, rfl⟩, q⟩ := h
  obtain ⟨v1, v2, v3, rfl, h1, h2, h3⟩ := dps3 hv
  refine ⟨_, pss_one (ps_ret (de_and (de_isi (T := "tuple") rfl m1 (dv 0) rfl m2 bt_tuple boot_isinstance) (pe_one (de_chain od_le od_le (dv 1) (de_bi cd_len rfl m3 bb_len (da_cons (dv 0) da_nil)) (dv 2))))), ?_⟩
  refine ret_D (sd_cons h1 (sd_cons h2 (sd_cons h3 sd_nil))) ⟨true, ⟨_, true, rfl, kit_tt, rfl⟩, ⟨_, _, decide (a ≤ xs.length), rfl, ⟨_, ⟨_, _, rfl, rfl, rfl⟩, ⟨xs, .inr rfl, rfl⟩⟩, ⟨_, _, rfl, rfl, rfl⟩, ?_⟩⟩ q
  cases decide (a ≤ (xs.length : Int)) with
  | true => exact ⟨_, rfl, _, _, rfl, rfl, rfl⟩
  | false => rfl

theorem gIsList_yes {xs : List PyData} {a b : Int} (h1 : a ≤ xs.length) (h2 : (xs.length : Int) ≤ b) : gIsList [.tuple xs, .int a, .int b] (.bool true) := ⟨xs, a, b, rfl, by rw [decide_eq_true h1, decide_eq_true h2]; rfl⟩
theorem gIsIn_yes {i a b : Int} (h1 : a ≤ i) (h2 : i ≤ b) : gIsIn [.int i, .int a, .int b] (.bool true) := ⟨i, a, b, rfl, by rw [decide_eq_true h1, decide_eq_true h2]; rfl⟩
theorem gAll_yes {α : Type} {xs : List α} {p : α → Bool} (h : ∀ x ∈ xs, p x = true) : gAll [.list (lcOut xs p fun _ => .bool true)] (.bool true) := ⟨(xs.filter p).map fun _ => true, by
  unfold lcOut
  rw [List.map_map]
  rfl, by
  have aux : ∀ l : List α, (l.map fun _ => true).all id = true := by
    intro l
    induction l with
    | nil => rfl
    | cons x l ih => rw [List.map_cons, List.all_cons, ih]; rfl
  rw [aux]⟩

/-! ### houses -/
def dPair (p : Nat × Nat) : PyData := .tuple [dN p.1, dN p.2]
def dHouse (n : Nat) (ds : List (Nat × Nat)) : PyData := .tuple [dN n, .tuple (ds.map dPair)]
structure HouseOk (n : Nat) (ds : List (Nat × Nat)) : Prop where
  n1 : 1 ≤ n
  n8 : n ≤ 8
  lim : ds.length ≤ 28
  lt : ∀ p ∈ ds, p.1 < p.2 ∧ p.2 < n
  asc : ∀ (i : Nat) (p q : Nat × Nat), ds[i]? = some p → ds[i + 1]? = some q → p.1 < q.1 ∨ (p.1 = q.1 ∧ p.2 < q.2)
theorem depth_pair (p : Nat × Nat) : (dPair p).depth = 1 := by simp [dPair, PyData.depth, PyData.depthAll]
theorem pair_lt {p q : Nat × Nat} (h : p.1 < q.1 ∨ (p.1 = q.1 ∧ p.2 < q.2)) : PySem.W.dataLt (dPair p) (dPair q) = true := by
  unfold dPair
  rw [PySem.W.dataLt_pair (by rfl) (by rfl)]
  rcases h with h | ⟨h1, h2⟩
  · rw [if_neg, PySem.W.dataLt_int]
    · exact decide_eq_true (by omega)
    · simp [PyData.eqv]
      omega
  · rw [if_pos, if_neg, PySem.W.dataLt_int]
    · exact decide_eq_true (by omega)
    · simp [PyData.eqv]
      omega
    · simp [PyData.eqv, h1]
abbrev sNeedDoors : Stmt := topS 12
abbrev nNeedDoors : List Str := ["size", "doors", "index", "door", "room"]
theorem sc_need_doors : FnScope nNeedDoors ["size", "doors"] (defScope sNeedDoors) := ⟨rfl, rfl, rfl, by decide +kernel, rfl, by decide +kernel, by decide +kernel⟩
def gNeedDoors : List PyData → PyData → Prop := fun as d => ∃ (n : Nat) (ds : List (Nat × Nat)), as = [dN n, .tuple (ds.map dPair)] ∧ HouseOk n ds ∧ d = .none
theorem ok_need_doors (D : DefAt K mg "need_doors" sNeedDoors ["size", "doors"]) (m1 : mg "enumerate" = none) (m2 : mg "all" = none) (m3 : ∃ t, mg "MOST_ROOMS" = some (.int 8 t)) (F1 : Has P w K mg base 1 "is_list" ["value", "least", "most"] (spD K gIsList))
    (F2 : Has P w K mg base 2 "is_in" ["value", "least", "most"] (spD K gIsIn)) : Has P w K mg base 3 "need_doors" ["size", "doors"] (spD K gNeedDoors) := by
  obtain ⟨t8, m3⟩ := m3
  refine has_of D sc_need_doors (lenD fun ds d ⟨i, a, e, _⟩ => by rw [e]; rfl) fun f cdv A outer s H vs Q E hr h => ?_
  obtain ⟨as, d, hv, ⟨n, ds, rfl, ok, rfl⟩, q⟩ := h
  obtain ⟨v1, v2, rfl, h1, h2⟩ := dps2 hv
  refine ⟨_, pss_cons (ps_if (dt_not (dt_val (de_def F1 hr (by decide) rfl (da_cons (dv 1) (da_cons de_int (da_cons (de_op od_fdiv (de_op od_mul (de_glob rfl m3 ⟨_, rfl⟩) (de_op od_sub (de_glob rfl m3 ⟨_, rfl⟩) de_int)) de_int) da_nil)))))) (pss_one ps_never) pss_nil)
    (pss_one (ps_for PassesOwn.never rfl (pi_enumT rfl m1 (dv 1)) (pg_tup rfl (pgs_cons (pg_name (i := 2) sc_need_doors.nd rfl (.inl rfl)) (pgs_cons (pg_name (i := 3) sc_need_doors.nd rfl (.inl rfl)) pgs_nil)))
      (pss_cons (ps_if (PW.pt (dw_or (dt_not (dt_val (de_def F1 hr (by decide) rfl (da_cons (dv 3) (da_cons de_int (da_cons de_int da_nil))))))
          (dw_or (dt_not (dt_val (de_bi (cd_all rfl) rfl m2 bb_all (da_cons (de_lcT (x := "room") (j := 4) rfl sc_need_doors.nd rfl (dv 3) (blkOk_by (N := nNeedDoors) (sc := defScope sNeedDoors) (by decide +kernel)) (fun _ _ _ _ _ => pg_name (i := 4) sc_need_doors.nd rfl (.inl rfl)) (fun _ _ _ _ _ => dts_nil)
              (fun _ _ _ _ _ => de_def F2 hr (by decide) rfl (da_cons (dv 4) (da_cons de_int (da_cons (de_op od_sub (dv 0) de_int) da_nil))))) da_nil))))
          (dw_or1 (dt_cmp od_ge (de_ix id_ix (dv 3) de_int) (de_ix id_ix (dv 3) de_int) (nomark _)))))) (pss_one ps_never) pss_nil)
        (pss_one (ps_if (PW.pt (dw_and (dt_cmp od_gt (dv 2) de_int (nomark _)) (dw_and1 (dt_cmp (od_geD hr.units) (de_ix id_ix (dv 1) (de_op od_sub (dv 2) de_int)) (dv 3) (nomark _))))) (pss_one ps_never) pss_nil))))), ?_⟩
  have sd0 : SD K H (L2.start nNeedDoors [v1, v2]) [some (dN n), some (.tuple (ds.map dPair))] := sd_cons h1 (sd_cons h2 sd_nil)
  refine if_D false sd0 ⟨true, ⟨_, ⟨_, _, rfl, ⟨_, _, rfl, ⟨_, _, ⟨_, _, ⟨_, _, rfl, ⟨_, _, rfl, rfl, ⟨_, _, rfl, rfl, rfl⟩⟩, ⟨_, _, rfl, rfl, .inl ⟨by decide, by decide⟩, rfl⟩⟩, rfl, ⟨_, _, rfl, rfl, ⟨by decide, by decide⟩, rfl⟩⟩, rfl, rfl⟩, rfl⟩, rfl⟩,
    gIsList_yes (by omega) (by have := ok.lim; rw [List.length_map]; show (ds.length : Int) ≤ 28; omega)⟩, rfl⟩ (fun h => nomatch h) (fun _ H1 e1 => ?_)
  refine ⟨_, _, sd0.ex e1, rfl, fun v H2 e2 hv => ?_⟩
  obtain ⟨a, xs, rfl, hsq, hda⟩ := dp_tuple hv
  have hlen : xs.length = ds.length := by rw [dps_len hda, List.length_map]
  refine ⟨a, xs, rfl, hsq, for_enumT (xs := xs) (fun i σ' H' => ∃ y2 y3, σ' = [some v1, some v2, y2, y3, none] ∧ Ex H2 H') ⟨none, none, rfl, Evl.Ex.refl _⟩ (fun i σ' H' _ ⟨_, _, _, e⟩ => Evl.ex_t e hsq) (fun i x T σ' H' hx hp hT => ?_) (fun σ' H' ⟨_, _, _, e⟩ => ?_)⟩
  · obtain ⟨y2, y3, rfl, e3⟩ := hp
    have hi : i < ds.length := by rw [← hlen]; exact (List.getElem?_eq_some_iff.mp hx).1
    obtain ⟨dx, hdx, hpx⟩ := dps_get' hda hx
    have hdi : ds[i]? = some ds[i] := List.getElem?_eq_getElem hi
    rw [List.getElem?_map, hdi] at hdx
    cases hdx
    refine ⟨T, [.int (i : Nat), x], rfl, .inl (.inl upd_same), rfl, _, _, rfl, _, _, rfl, rfl, ?_⟩
    have e4 : Ex H2 (upd H' T (.tup [.int (i : Nat), x])) := e3.trans (Evl.Ex.new hT)
    have lt := ok.lt ds[i] (List.getElem_mem hi)
    have n8 := ok.n8
    have sd1 : SD K (upd H' T (.tup [.int (i : Nat), x])) [some v1, some v2, some (.int (i : Nat)), some x, none] [some (dN n), some (.tuple (ds.map dPair)), some (dN i), some (dPair ds[i]), none] :=
      sd_cons (dp_ex ((e1.trans e2).trans e4) h1) (sd_cons (dp_ex ((e1.trans e2).trans e4) h2) (sd_cons (.int _) (sd_cons (dp_ex e4 hpx) (sd_skip sd_nil))))
    refine if_D false sd1 ⟨false, ⟨true, ⟨_, ⟨_, _, rfl, ⟨_, _, rfl, ⟨_, _, rfl, rfl, rfl⟩, rfl⟩, rfl⟩, gIsList_yes (by show (2 : Int) ≤ 2; omega) (by show (2 : Int) ≤ 2; omega)⟩, rfl⟩,
      ⟨false, ⟨true, ⟨_, ⟨_, _, ⟨_, ⟨PyData, [dN ds[i].1, dN ds[i].2], id, fun _ => true, fun _ => .bool true, rfl, ⟨by show 2 ≤ sizeLine; decide, fun _ _ => rfl, fun z hz _ => ⟨rfl, ?_⟩⟩, rfl⟩, rfl⟩, rfl, rfl⟩, gAll_yes fun _ _ => rfl⟩, rfl⟩,
      ⟨_, _, ⟨_, _, rfl, rfl, ⟨_, 0, .inr rfl, rfl, rfl⟩⟩, ⟨_, _, rfl, rfl, ⟨_, 1, .inr rfl, rfl, rfl⟩⟩, ⟨_, _, rfl, rfl, ?_⟩⟩⟩⟩ (fun h => nomatch h) (fun _ H5 e5 => ?_)
    · refine ⟨_, ⟨_, _, rfl, ⟨_, _, rfl, ⟨_, _, ⟨_, _, rfl, rfl, ⟨_, _, rfl, rfl, rfl⟩⟩, rfl, rfl⟩, rfl⟩, rfl⟩, ?_⟩
      have hz' : z = dN ds[i].1 ∨ z = dN ds[i].2 := by simpa using hz
      rcases hz' with rfl | rfl
      · exact gIsIn_yes (by omega) (by show _ ≤ (n : Int) - 1; omega)
      · exact gIsIn_yes (by omega) (by show _ ≤ (n : Int) - 1; omega)
    · exact bF (by omega)
    · refine if_D false (sd1.ex e5) ⟨decide ((i : Int) > 0), ⟨_, _, rfl, rfl, ⟨_, _, rfl, rfl, rfl⟩⟩, ?_⟩ (fun h => nomatch h) (fun _ H6 e6 => ⟨some (.int (i : Nat)), some x, rfl, e4.trans (e5.trans e6)⟩)
      by_cases h0 : (i : Int) > 0
      · rw [decide_eq_true h0]
        obtain ⟨j, rfl⟩ : ∃ j, i = j + 1 := ⟨i - 1, by omega⟩
        have hj : ds[j]? = some ds[j] := List.getElem?_eq_getElem (by omega)
        have ej : (((j + 1 : Nat) : Int) - 1) = (j : Int) := by omega
        refine ⟨_, _, ⟨_, _, rfl, ⟨_, _, rfl, rfl, ⟨_, _, rfl, rfl, rfl⟩⟩, ⟨_, j, .inr rfl, iE ej, (by rw [List.getElem?_map, hj]; rfl : (ds.map dPair)[j]? = some (dPair ds[j]))⟩⟩, rfl, ⟨by rfl, (fun h => nomatch h), by rw [depth_pair]; decide, ?_⟩⟩
        rw [pair_lt (ok.asc j _ _ hj hdi)]
        try rfl
      · rw [decide_eq_false h0]
        try exact rfl
  · exact q .non H' (e1.trans (e2.trans e)) .non

abbrev sNeedHouse : Stmt := topS 13
theorem sc_need_house : FnScope ["house"] ["house"] (defScope sNeedHouse) := ⟨rfl, rfl, rfl, by decide +kernel, rfl, by decide +kernel, by decide +kernel⟩
def gNeedHouse : List PyData → PyData → Prop := fun as d => ∃ (n : Nat) (ds : List (Nat × Nat)), as = [dHouse n ds] ∧ HouseOk n ds ∧ d = .none
theorem ok_need_house (D : DefAt K mg "need_house" sNeedHouse ["house"]) (m3 : ∃ t, mg "MOST_ROOMS" = some (.int 8 t)) (F1 : Has P w K mg base 1 "is_list" ["value", "least", "most"] (spD K gIsList))
    (F2 : Has P w K mg base 2 "is_in" ["value", "least", "most"] (spD K gIsIn)) (F3 : Has P w K mg base 3 "need_doors" ["size", "doors"] (spD K gNeedDoors)) : Has P w K mg base 4 "need_house" ["house"] (spD K gNeedHouse) := by
  obtain ⟨t8, m3⟩ := m3
  refine has_of D sc_need_house (lenD fun ds d ⟨i, a, e, _⟩ => by rw [e]; rfl) fun f cdv A outer s H vs Q E hr h => ?_
  obtain ⟨as, d, hv, ⟨n, ds, rfl, ok, rfl⟩, q⟩ := h
  obtain ⟨v1, rfl, h1⟩ := dps1 hv
  refine ⟨_, pss_cons (ps_if (dt_not (dt_val (de_def F1 hr (by decide) rfl (da_cons (dv 0) (da_cons de_int (da_cons de_int da_nil)))))) (pss_one ps_never) pss_nil)
    (pss_cons (ps_if (dt_not (dt_val (de_def F2 hr (by decide) rfl (da_cons (de_ix id_ix (dv 0) de_int) (da_cons de_int (da_cons (de_glob rfl m3 ⟨_, rfl⟩) da_nil)))))) (pss_one ps_never) pss_nil)
    (pss_one (ps_expr (de_def F3 hr (by decide) rfl (da_cons (de_ix id_ix (dv 0) de_int) (da_cons (de_ix id_ix (dv 0) de_int) da_nil)))))), ?_⟩
  have sd0 : SD K H [some v1] [some (dHouse n ds)] := sd_cons h1 sd_nil
  have n1 := ok.n1
  have n8 := ok.n8
  refine if_D false sd0 ⟨true, ⟨_, ⟨_, _, rfl, ⟨_, _, rfl, ⟨_, _, rfl, rfl, rfl⟩, rfl⟩, rfl⟩, gIsList_yes (by show (2 : Int) ≤ 2; omega) (by show (2 : Int) ≤ 2; omega)⟩, rfl⟩ (fun h => nomatch h) (fun _ H1 e1 => ?_)
  refine if_D false (sd0.ex e1) ⟨true, ⟨_, ⟨_, _, ⟨_, _, rfl, rfl, ⟨_, 0, .inr rfl, rfl, rfl⟩⟩, ⟨_, _, rfl, ⟨_, _, rfl, rfl, rfl⟩, rfl⟩, rfl⟩, gIsIn_yes (by omega) (by omega)⟩, rfl⟩ (fun h => nomatch h) (fun _ H2 e2 => ?_)
  exact drop_D (sd0.ex (e1.trans e2)) ⟨_, ⟨_, _, ⟨_, _, rfl, rfl, ⟨_, 0, .inr rfl, rfl, rfl⟩⟩, ⟨_, _, ⟨_, _, rfl, rfl, ⟨_, 1, .inr rfl, rfl, rfl⟩⟩, rfl, rfl⟩, rfl⟩, ⟨n, ds, rfl, ok, rfl⟩⟩ fun v H3 e3 _ => q .non H3 ((e1.trans e2).trans e3) .non

/-! ### states -/
structure StOk (n : Nat) (st : List Nat) : Prop where
  len : st.length = n
  le : ∀ x ∈ st, x ≤ 60
abbrev sNeedNumbers : Stmt := topS 17
abbrev nNeedNumbers : List Str := ["house", "state", "index", "number"]
theorem sc_need_numbers : FnScope nNeedNumbers ["house", "state"] (defScope sNeedNumbers) := ⟨rfl, rfl, rfl, by decide +kernel, rfl, by decide +kernel, by decide +kernel⟩
def gNeedNumbers : List PyData → PyData → Prop := fun as d => ∃ (n : Nat) (ds : List (Nat × Nat)) (st : List Nat), as = [dHouse n ds, dL st] ∧ StOk n st ∧ d = .none
theorem ok_need_numbers (D : DefAt K mg "need_numbers" sNeedNumbers ["house", "state"]) (m1 : mg "enumerate" = none) (m3 : ∃ t, mg "MOST_NUMBER" = some (.int 60 t)) (F1 : Has P w K mg base 1 "is_list" ["value", "least", "most"] (spD K gIsList))
    (F2 : Has P w K mg base 2 "is_in" ["value", "least", "most"] (spD K gIsIn)) : Has P w K mg base 3 "need_numbers" ["house", "state"] (spD K gNeedNumbers) := by
  obtain ⟨t8, m3⟩ := m3
  refine has_of D sc_need_numbers (lenD fun ds d ⟨i, a, b, e, _⟩ => by rw [e]; rfl) fun f cdv A outer s H vs Q E hr h => ?_
  obtain ⟨as, d, hv, ⟨n, ds, st, rfl, ok, rfl⟩, q⟩ := h
  obtain ⟨v1, v2, rfl, h1, h2⟩ := dps2 hv
  refine ⟨_, pss_cons (ps_if (dt_not (dt_val (de_def F1 hr (by decide) rfl (da_cons (dv 1) (da_cons (de_ix id_ix (dv 0) de_int) (da_cons (de_ix id_ix (dv 0) de_int) da_nil)))))) (pss_one ps_never) pss_nil)
    (pss_one (ps_for PassesOwn.never rfl (pi_enumT rfl m1 (dv 1)) (pg_tup rfl (pgs_cons (pg_name (i := 2) sc_need_numbers.nd rfl (.inl rfl)) (pgs_cons (pg_name (i := 3) sc_need_numbers.nd rfl (.inl rfl)) pgs_nil)))
      (pss_one (ps_if (dt_not (dt_val (de_def F2 hr (by decide) rfl (da_cons (dv 3) (da_cons de_int (da_cons (de_glob rfl m3 ⟨_, rfl⟩) da_nil)))))) (pss_one ps_never) pss_nil)))), ?_⟩
  have sd0 : SD K H (L2.start nNeedNumbers [v1, v2]) [some (dHouse n ds), some (dL st)] := sd_cons h1 (sd_cons h2 sd_nil)
  have hl := ok.len
  refine if_D false sd0 ⟨true, ⟨_, ⟨_, _, rfl, ⟨_, _, ⟨_, _, rfl, rfl, ⟨_, 0, .inr rfl, rfl, rfl⟩⟩, ⟨_, _, ⟨_, _, rfl, rfl, ⟨_, 0, .inr rfl, rfl, rfl⟩⟩, rfl, rfl⟩, rfl⟩, rfl⟩,
    gIsList_yes (by rw [List.length_map]; omega) (by rw [List.length_map]; omega)⟩, rfl⟩ (fun h => nomatch h) (fun _ H1 e1 => ?_)
  refine ⟨_, _, sd0.ex e1, rfl, fun v H2 e2 hv => ?_⟩
  obtain ⟨a, xs, rfl, hsq, hda⟩ := dp_tuple hv
  have hlen : xs.length = st.length := by rw [dps_len hda, List.length_map]
  refine ⟨a, xs, rfl, hsq, for_enumT (xs := xs) (fun i σ' H' => ∃ y2 y3, σ' = [some v1, some v2, y2, y3] ∧ Ex H2 H') ⟨none, none, rfl, Evl.Ex.refl _⟩ (fun i σ' H' _ ⟨_, _, _, e⟩ => Evl.ex_t e hsq) (fun i x T σ' H' hx hp hT => ?_) (fun σ' H' ⟨_, _, _, e⟩ => ?_)⟩
  · obtain ⟨y2, y3, rfl, e3⟩ := hp
    have hi : i < st.length := by rw [← hlen]; exact (List.getElem?_eq_some_iff.mp hx).1
    obtain ⟨dx, hdx, hpx⟩ := dps_get' hda hx
    have hdi : st[i]? = some st[i] := List.getElem?_eq_getElem hi
    rw [List.getElem?_map, hdi] at hdx
    cases hdx
    refine ⟨T, [.int (i : Nat), x], rfl, .inl (.inl upd_same), rfl, _, _, rfl, _, _, rfl, rfl, ?_⟩
    have e4 : Ex H2 (upd H' T (.tup [.int (i : Nat), x])) := e3.trans (Evl.Ex.new hT)
    have le := ok.le st[i] (List.getElem_mem hi)
    have sd1 : SD K (upd H' T (.tup [.int (i : Nat), x])) [some v1, some v2, some (.int (i : Nat)), some x] [none, none, none, some (dN st[i])] := sd_skip (sd_skip (sd_skip (sd_cons (dp_ex e4 hpx) sd_nil)))
    exact if_D false sd1 ⟨true, ⟨_, ⟨_, _, rfl, ⟨_, _, rfl, ⟨_, _, rfl, rfl, rfl⟩, rfl⟩, rfl⟩, gIsIn_yes (by omega) (by omega)⟩, rfl⟩ (fun h => nomatch h) (fun _ H6 e6 => ⟨some (.int (i : Nat)), some x, rfl, e4.trans e6⟩)
  · exact q .non H' (e1.trans (e2.trans e)) .non

abbrev sNeedState : Stmt := topS 18
theorem sc_need_state : FnScope ["house", "state"] ["house", "state"] (defScope sNeedState) := ⟨rfl, rfl, rfl, by decide +kernel, rfl, by decide +kernel, by decide +kernel⟩
def gNeedState : List PyData → PyData → Prop := fun as d => ∃ (n : Nat) (ds : List (Nat × Nat)) (st : List Nat), as = [dHouse n ds, dL st] ∧ HouseOk n ds ∧ StOk n st ∧ d = .none
theorem ok_need_state (D : DefAt K mg "need_state" sNeedState ["house", "state"]) (F1 : Has P w K mg base 4 "need_house" ["house"] (spD K gNeedHouse)) (F2 : Has P w K mg base 3 "need_numbers" ["house", "state"] (spD K gNeedNumbers)) :
    Has P w K mg base 5 "need_state" ["house", "state"] (spD K gNeedState) := by
  refine has_of D sc_need_state (lenD fun ds d ⟨i, a, b, e, _⟩ => by rw [e]; rfl) fun f cdv A outer s H vs Q E hr h => ?_
  obtain ⟨as, d, hv, ⟨n, ds, st, rfl, ok, ok2, rfl⟩, q⟩ := h
  obtain ⟨v1, v2, rfl, h1, h2⟩ := dps2 hv
  refine ⟨_, pss_cons (ps_expr (de_def F1 hr (by decide) rfl (da_cons (dv 0) da_nil))) (pss_one (ps_expr (de_def F2 hr (by decide) rfl (da_cons (dv 0) (da_cons (dv 1) da_nil))))), ?_⟩
  have sd0 : SD K H [some v1, some v2] [some (dHouse n ds), some (dL st)] := sd_cons h1 (sd_cons h2 sd_nil)
  refine drop_D sd0 ⟨_, ⟨_, _, rfl, rfl, rfl⟩, ⟨n, ds, rfl, ok, rfl⟩⟩ fun v H1 e1 _ => ?_
  exact drop_D (sd0.ex e1) ⟨_, ⟨_, _, rfl, ⟨_, _, rfl, rfl, rfl⟩, rfl⟩, ⟨n, ds, st, rfl, ok2, rfl⟩⟩ fun v H2 e2 _ => q .non H2 (e1.trans e2) .non

def Parted (ds : List (Nat × Nat)) (st : List Nat) : Prop := ∀ p ∈ ds, st.getD p.1 0 ≠ st.getD p.2 0
abbrev sLikeIn : Stmt := topS 19
abbrev nLikeIn : List Str := ["house", "state", "door"]
theorem sc_like_in : FnScope nLikeIn ["house", "state"] (defScope sLikeIn) := ⟨rfl, rfl, rfl, by decide +kernel, rfl, by decide +kernel, by decide +kernel⟩
def gLikeIn : List PyData → PyData → Prop := fun as d => ∃ (n : Nat) (ds : List (Nat × Nat)) (st : List Nat), as = [dHouse n ds, dL st] ∧ HouseOk n ds ∧ st.length = n ∧ Parted ds st ∧ d = .list []
theorem ok_like_in (D : DefAt K mg "like_in" sLikeIn ["house", "state"]) : Has P w K mg base 1 "like_in" ["house", "state"] (spD K gLikeIn) := by
  refine has_of D sc_like_in (lenD fun ds d ⟨i, a, b, e, _⟩ => by rw [e]; rfl) fun f cdv A outer s H vs Q E hr h => ?_
  obtain ⟨as, d, hv, ⟨n, ds, st, rfl, ok, hl, hp, rfl⟩, q⟩ := h
  obtain ⟨v1, v2, rfl, h1, h2⟩ := dps2 hv
  refine ⟨_, pss_one (ps_ret (de_lcT (x := "door") (j := 2) rfl sc_like_in.nd rfl (de_ix id_ix (dv 0) de_int) (blkOk_by (N := nLikeIn) (sc := defScope sLikeIn) (by decide +kernel)) (fun _ _ _ _ _ => pg_name (i := 2) sc_like_in.nd rfl (.inl rfl))
    (fun _ _ _ _ _ => dts_one (dt_cmp (od_eq hr.units) (de_ix id_ix (dv 1) (de_ix id_ix (dv 2) de_int)) (de_ix id_ix (dv 1) (de_ix id_ix (dv 2) de_int)) (nomark _))) (fun _ _ _ _ _ => dv 2))), ?_⟩
  refine ret_D (sd_cons h1 (sd_cons h2 (sd_skip sd_nil))) ⟨_, ⟨Nat × Nat, ds, dPair, fun _ => false, dPair, ⟨_, _, rfl, rfl, ⟨_, 1, .inr rfl, rfl, rfl⟩⟩, ⟨by have := ok.lim; rw [sizeLine_eq]; omega, fun p hmem => ?_, fun _ _ h => nomatch h⟩, rfl⟩, (lcOut_none ds dPair ▸ rfl : PyData.list [] = .list (lcOut ds (fun _ => false) dPair))⟩ q
  have lt := ok.lt p hmem
  exact ⟨_, _, ⟨_, _, rfl, ⟨_, _, rfl, rfl, ⟨_, 0, .inr rfl, rfl, rfl⟩⟩, ⟨_, p.1, .inr rfl, rfl, getN (by omega)⟩⟩, ⟨_, _, rfl, ⟨_, _, rfl, rfl, ⟨_, 1, .inr rfl, rfl, rfl⟩⟩, ⟨_, p.2, .inr rfl, rfl, getN (by omega)⟩⟩, gEq_intF (by have := hp p hmem; omega)⟩

abbrev sNeedParted : Stmt := topS 20
theorem sc_need_parted : FnScope ["house", "state"] ["house", "state"] (defScope sNeedParted) := ⟨rfl, rfl, rfl, by decide +kernel, rfl, by decide +kernel, by decide +kernel⟩
def gNeedParted : List PyData → PyData → Prop := fun as d => ∃ (n : Nat) (ds : List (Nat × Nat)) (st : List Nat), as = [dHouse n ds, dL st] ∧ HouseOk n ds ∧ StOk n st ∧ Parted ds st ∧ d = .none
theorem ok_need_parted (D : DefAt K mg "need_parted" sNeedParted ["house", "state"]) (F1 : Has P w K mg base 5 "need_state" ["house", "state"] (spD K gNeedState)) (F2 : Has P w K mg base 1 "like_in" ["house", "state"] (spD K gLikeIn)) :
    Has P w K mg base 6 "need_parted" ["house", "state"] (spD K gNeedParted) := by
  refine has_of D sc_need_parted (lenD fun ds d ⟨i, a, b, e, _⟩ => by rw [e]; rfl) fun f cdv A outer s H vs Q E hr h => ?_
  obtain ⟨as, d, hv, ⟨n, ds, st, rfl, ok, ok2, hp, rfl⟩, q⟩ := h
  obtain ⟨v1, v2, rfl, h1, h2⟩ := dps2 hv
  refine ⟨_, pss_cons (ps_expr (de_def F1 hr (by decide) rfl (da_cons (dv 0) (da_cons (dv 1) da_nil)))) (pss_one (ps_if (dt_cmp (od_ne hr.units) (de_def F2 hr (by decide) rfl (da_cons (dv 0) (da_cons (dv 1) da_nil))) (de_lst da_nil) (nomark _)) (pss_one ps_never) pss_nil)), ?_⟩
  have sd0 : SD K H [some v1, some v2] [some (dHouse n ds), some (dL st)] := sd_cons h1 (sd_cons h2 sd_nil)
  refine drop_D sd0 ⟨_, ⟨_, _, rfl, ⟨_, _, rfl, rfl, rfl⟩, rfl⟩, ⟨n, ds, st, rfl, ok, ok2, rfl⟩⟩ fun v H1 e1 _ => ?_
  exact if_D false (sd0.ex e1) ⟨_, _, ⟨_, ⟨_, _, rfl, ⟨_, _, rfl, rfl, rfl⟩, rfl⟩, ⟨n, ds, st, rfl, ok, ok2.len, hp, rfl⟩⟩, ⟨[], rfl, Nat.zero_le _, rfl⟩, ⟨by decide, by decide, by simp [PyData.eqv, PyData.eqvAll]⟩⟩ (fun h => nomatch h) (fun _ H2 e2 => q .non H2 (e1.trans e2) .non)
end
end Mx
/-! P2: near, both -/
namespace Mx
open PySem PySem.Spec PyProof.Rows L2
theorem take_fold {α β : Type} (f : β → α → β) (b : β) (l : List α) (i : Nat) (x : α) (h : l[i]? = some x) : (l.take (i + 1)).foldl f b = f ((l.take i).foldl f b) x := by
  rw [List.take_add_one, h, List.foldl_append]
  rfl
section
variable {P : Program} {w : World} {K : PySem.W.Frag} {mg : Str → Option Value} {base : Heap}
/-- the loop over the doors, whatever the slots are named -/
theorem near_loop {σ : L2.St} {H H2 : Hp} {D a : Addr} {ps : List Addr} {n i1 i2 i3 : Nat} {ds : List (Nat × Nat)} {xs : List V} {De : Ends} (ok : HouseOk n ds) (hsq : SqT K H2 a xs) (hda : DpAll K H2 xs (ds.map dPair)) (fs : FS H H2 D ps (List.replicate n []))
    (h1 : σ[i1]? = some (some (.ref D))) (n2 : i2 < σ.length) (n3 : i3 < σ.length) (n12 : i1 ≠ i2) (n13 : i1 ≠ i3) (n23 : i2 ≠ i3)
    (q : ∀ y2 y3 H', FS H H' D ps (rawNear n ds) → ExT K H2 H' → De.nx ((σ.set i2 y2).set i3 y3) H') :
    ∃ W : Nat → Nat → L2.St → Hp → Prop, (∃ m, W 0 m σ H2) ∧ ∀ i m σ H, W i m σ H →
      ((Itt K a).stop i H ∧ De.nx σ H) ∨ ((Itt K a).go i H ∧ ∃ N : L2.St → Hp → Prop, (∀ σ' H', N σ' H' → ∃ m', m' < m ∧ W (i + 1) m' σ' H') ∧ ∀ x H', (Itt K a).yld i H x H' → gTup K 2 (gCons (gName i2) (gCons (gName i3) gNil)) x σ H' fun σ2 H2 =>
        tSeq (tDrop (tBM K "list" rAppend (tOp (rIxL K) (tVar i1) (tVar i2)) (tCons (tVar i3) tNil))) (tDrop (tBM K "list" rAppend (tOp (rIxL K) (tVar i1) (tVar i3)) (tCons (tVar i2) tNil))) { De with nx := N, ct := N, bk := De.nx } σ2 H2) := by
  have hlen : xs.length = ds.length := by rw [dps_len hda, List.length_map]
  have lim := ok.lim
  refine for_tup (xs := xs) (fun i σ' H' => ∃ y2 y3, σ' = (σ.set i2 y2).set i3 y3 ∧ FS H H' D ps ((ds.take i).foldl growF (List.replicate n [])) ∧ ExT K H2 H') ⟨σ[i2], σ[i3], ?_, fs, ExT.refl⟩ (fun i σ' H' _ ⟨_, _, _, _, e⟩ => e _ _ hsq) (fun i x σ' H' hx hp => ?_) fun σ' H' ⟨y2, y3, e1, fs', e2⟩ => ?_
  · rw [List.set_getElem_self, List.set_getElem_self]
  · obtain ⟨y2, y3, rfl, fs', eT⟩ := hp
    have hi : i < ds.length := by rw [← hlen]; exact (List.getElem?_eq_some_iff.mp hx).1
    obtain ⟨dx, hdx, hpx⟩ := dps_get' hda hx
    have hdi : ds[i]? = some ds[i] := List.getElem?_eq_getElem hi
    rw [List.getElem?_map, hdi] at hdx
    cases hdx
    have lt := ok.lt ds[i] (List.getElem_mem hi)
    obtain ⟨b, zs, rfl, hsz, hdz⟩ := dp_tuple hpx
    obtain ⟨u1, u2, rfl, g1, g2⟩ := dps2 hdz
    rw [dp_int g1, dp_int g2] at hsz
    have hrl : ((ds.take i).foldl growF (List.replicate n [])).length = n := by rw [raw_len, List.length_replicate]
    have hsm : ∀ k, (((ds.take i).foldl growF (List.replicate n [])).getD k []).length ≤ 100 := fun k => by
      have := raw_le n (ds.take i) (List.replicate n []) 0 (by rw [List.length_replicate]) (fun p hp => by
        have := ok.lt p (List.mem_of_mem_take hp)
        omega) (fun j => by
          rw [List.getD_eq_getElem?_getD, List.getElem?_replicate]
          split <;> simp) k
      rw [List.length_take] at this
      omega
    refine ⟨b, [.int (ds[i].1 : Int), .int (ds[i].2 : Int)], rfl, eT _ _ hsz, rfl, _, _, rfl, _, _, rfl, rfl, ?_⟩
    have l0 : (((((σ.set i2 y2).set i3 y3).set i2 (some (V.int (ds[i].1 : Int)))).set i3 (some (V.int (ds[i].2 : Int)))) : L2.St) = (σ.set i2 (some (V.int (ds[i].1 : Int)))).set i3 (some (V.int (ds[i].2 : Int))) := by
      rw [List.set_comm y3 _ (Ne.symm n23), List.set_set, List.set_set]
    rw [l0]
    have g1 : ((σ.set i2 (some (V.int (ds[i].1 : Int)))).set i3 (some (V.int (ds[i].2 : Int))))[i1]? = some (some (.ref D)) := by
      rw [List.getElem?_set_ne (Ne.symm n13), List.getElem?_set_ne (Ne.symm n12)]
      exact h1
    have g2 : ((σ.set i2 (some (V.int (ds[i].1 : Int)))).set i3 (some (V.int (ds[i].2 : Int))))[i2]? = some (some (.int (ds[i].1 : Int))) := by
      rw [List.getElem?_set_ne (Ne.symm n23), List.getElem?_set_self n2]
    have g3 : ((σ.set i2 (some (V.int (ds[i].1 : Int)))).set i3 (some (V.int (ds[i].2 : Int))))[i3]? = some (some (.int (ds[i].2 : Int))) := by
      rw [List.getElem?_set_self (by simpa using n3)]
    refine FS.app (K := K) fs' g1 g2 g3 (by omega) (by have := hsm ds[i].1; omega) fun H3 fs3 eT3 => ?_
    refine FS.app (K := K) fs3 g1 g3 g2 (by rw [List.length_set]; omega) ?_ fun H4 fs4 eT4 => ⟨_, _, rfl, ?_, (eT.trans eT3).trans eT4⟩
    · rw [List.getD_eq_getElem?_getD, List.getElem?_set_ne (by omega)]
      have := hsm ds[i].2
      rw [List.getD_eq_getElem?_getD] at this
      omega
    · rw [take_fold growF _ ds i ds[i] hdi]
      exact fs4
  · subst e1
    rw [hlen, List.take_length] at fs'
    exact q y2 y3 H' fs' e2

abbrev sNear : Stmt := topS 14
abbrev nNear : List Str := ["house", "found", "one", "other", "room", "row"]
theorem sc_near : FnScope nNear ["house"] (defScope sNear) := ⟨rfl, rfl, rfl, by decide +kernel, rfl, by decide +kernel, by decide +kernel⟩
def gNear : List PyData → PyData → Prop := fun as d => ∃ (n : Nat) (ds : List (Nat × Nat)), as = [dHouse n ds] ∧ HouseOk n ds ∧ d = dRows (nearF n ds)
theorem ok_near (D : DefAt K mg "near" sNear ["house"]) (m1 : mg "range" = none) (m2 : mg "sorted" = none) : Has P w K mg base 1 "near" ["house"] (spD K gNear) := by
  refine has_of D sc_near (lenD fun ds d ⟨i, a, e, _⟩ => by rw [e]; rfl) fun f cdv A outer s H vs Q E hr h => ?_
  obtain ⟨as, d, hv, ⟨n, ds, rfl, ok, rfl⟩, q⟩ := h
  obtain ⟨v1, rfl, h1⟩ := dps1 hv
  refine ⟨_, pss_cons (ps_setLc (i := 1) (own := [("room", 4)]) (g := gName 4) (tt := tYes) rfl sc_near.nd rfl rfl (sw_true rfl rfl rfl (by decide +kernel)) (pi_range1 rfl m1 (pa_cons (de_ix id_ix (dv 0) de_int) pa_nil)) (blkOk_by (N := nNear) (sc := defScope sNear) (by decide +kernel))
      (fun _ _ _ _ _ => pg_name (i := 4) sc_near.nd rfl (.inl rfl)) (fun _ _ _ _ _ => pts_nil) (fun _ _ _ _ _ => pe_lst pa_nil))
    (pss_cons (ps_for PassesOwn.never rfl (pi_tup (de_ix id_ix (dv 0) de_int)) (pg_tup rfl (pgs_cons (pg_name (i := 2) sc_near.nd rfl (.inl rfl)) (pgs_cons (pg_name (i := 3) sc_near.nd rfl (.inl rfl)) pgs_nil)))
      (pss_cons (ps_expr (pe_bm PySem.F.plainAttrs_list PySem.F.slot_list_append PySem.F.type_list_append mt_append (pe_ix ix_list (pv 1) (pv 2) (fun _ _ => rfl)) (pa_cons (pv 3) pa_nil)))
        (pss_one (ps_expr (pe_bm PySem.F.plainAttrs_list PySem.F.slot_list_append PySem.F.type_list_append mt_append (pe_ix ix_list (pv 1) (pv 3) (fun _ _ => rfl)) (pa_cons (pv 2) pa_nil))))))
    (pss_one (ps_ret (pe_lc (own := [("row", 5)]) (g := gName 5) (tt := tYes) (te := tDL K (fSortL (fV 5))) rfl sc_near.nd (pi_list (pv 1)) (blkOk_by (N := nNear) (sc := defScope sNear) (by decide +kernel)) (fun _ _ _ _ _ => pg_name (i := 5) sc_near.nd rfl (.inl rfl)) (fun _ _ _ _ _ => pts_nil)
      (fun _ _ _ _ _ => dl_sorted hr.units rfl m2 bb_sorted (dv 5)))))), ?_⟩
  have sd0 : SD K H (L2.start nNear [v1]) [some (dHouse n ds)] := sd_cons h1 sd_nil
  have n8 := ok.n8
  refine ⟨_, _, sd0, ⟨_, _, rfl, rfl, ⟨_, 0, .inr rfl, rfl, rfl⟩⟩, fun v H1 e1 hv => ⟨(n : Int), by rw [dp_int hv], by omega, by omega, fun D hD => ?_⟩⟩
  rw [show ((n : Int)).toNat = n from Int.toNat_natCast n]
  refine fs_start (K := K) e1 hD (by omega) fun H2 ps fs => ?_
  refine ⟨_, _, (sd_cons (dp_ex fs.ex h1) sd_nil : SD K H2 _ [some (dHouse n ds)]), ⟨_, _, rfl, rfl, ⟨_, 1, .inr rfl, rfl, rfl⟩⟩, fun v H3 e3 hv => ?_⟩
  obtain ⟨a, xs, rfl, hsq, hda⟩ := dp_tuple hv
  refine ⟨a, rfl, ⟨xs, hsq⟩, near_loop (i1 := 1) (i2 := 2) (i3 := 3) ok hsq hda (fs.ext e3) rfl (by show 2 < 6; decide) (by show 3 < 6; decide) (by decide) (by decide) (by decide) fun y2 y3 H4 fs4 eT4 => ?_⟩
  have hl : (rawNear n ds).length = n := by unfold rawNear; rw [raw_len, List.length_replicate]
  have hpl := fs4.len
  refine ⟨.ref D, rfl, D, rfl, ⟨_, .inl (.inl fs4.at_)⟩, fun D2 hD2 => lc_list (xs := ps.map V.ref) (fun i H' => ∃ qs, FS H4 H' D2 qs (((rawNear n ds).take i).map (sortD dN))) ⟨[], upd_same, rfl, List.nodup_nil, (fun h => nomatch h), (fun i p r h => by simp at h), hD2, (fun p h => nomatch h), Evl.Ex.new hD2⟩ (fun i H' _ ⟨qs, g⟩ => .inl (.inl (g.ex _ _ fs4.at_))) (fun i x H' hx hp => ?_) fun H' ⟨qs, g⟩ => ?_⟩
  · obtain ⟨qs, g⟩ := hp
    have hi : i < (rawNear n ds).length := by
      have := (List.getElem?_eq_some_iff.mp hx).1
      simp at this
      omega
    obtain ⟨p, hp, rfl⟩ : ∃ p, ps[i]? = some p ∧ x = .ref p := by
      rw [List.getElem?_map] at hx
      obtain ⟨p, h1, h2⟩ := Option.map_eq_some_iff.mp hx
      exact ⟨p, h1, h2.symm⟩
    have hr' : (rawNear n ds)[i]? = some (rawNear n ds)[i] := List.getElem?_eq_getElem hi
    have hH := g.ex _ _ (fs4.row i p _ hp hr')
    refine ⟨wipe_one, ?_⟩
    dsimp only [tYes]
    rw [if_pos rfl]
    have hsm : ((rawNear n ds)[i]).length ≤ 1000 := by
      have := raw_le n ds (List.replicate n []) 0 (by rw [List.length_replicate]) (fun p hp => by
        have := ok.lt p hp
        omega) (fun j => by
          rw [List.getD_eq_getElem?_getD, List.getElem?_replicate]
          split <;> simp) i
      have lim := ok.lim
      rw [List.getD_eq_getElem?_getD] at this
      have e : (ds.foldl growF (List.replicate n []))[i]? = some (rawNear n ds)[i] := hr'
      rw [e] at this
      simp at this
      omega
    refine ⟨[none, none, none, none, none, some (.list (((rawNear n ds)[i]).map dN))], _, sd_skip (sd_skip (sd_skip (sd_skip (sd_skip (sd_cons (dp_lst_at hH (dps_nats _)) sd_nil))))), ⟨_, rfl, gSortL_nats _ (Nat.le_of_lt (small1000 hsm))⟩, fun p2 acc H5 hp2 e5 h5 hd5 => ⟨qs.map V.ref, e5 _ _ g.at_, ?_, qs ++ [p2], ?_⟩⟩
    · rw [List.length_map, g.len, List.length_map, List.length_take]
      exact small1000 (by omega)
    · rw [nats_dps hd5] at h5
      rw [List.take_add_one, hr', List.map_append]
      exact g.snoc hp2 e5 h5
  · rw [List.length_map, hpl, List.take_length] at g
    exact q _ H' (fs4.ex.trans g.ex) g.dp

abbrev sLawNear : Stmt := topS 46
abbrev nLawNear : List Str := ["_law_house_here", "_law_found", "_law_one", "_law_other", "_law_room"]
theorem sc_law_near : FnScope nLawNear ["_law_house_here"] (defScope sLawNear) := ⟨rfl, rfl, rfl, by decide +kernel, rfl, by decide +kernel, by decide +kernel⟩
def gLawNear : List PyData → PyData → Prop := fun as d => ∃ (n : Nat) (ds : List (Nat × Nat)), as = [dHouse n ds] ∧ HouseOk n ds ∧ d = dRows (rawNear n ds)
theorem ok_law_near (D : DefAt K mg "_law_near" sLawNear ["_law_house_here"]) (m1 : mg "range" = none) : Has P w K mg base 1 "_law_near" ["_law_house_here"] (spD K gLawNear) := by
  refine has_of D sc_law_near (lenD fun ds d ⟨i, a, e, _⟩ => by rw [e]; rfl) fun f cdv A outer s H vs Q E hr h => ?_
  obtain ⟨as, d, hv, ⟨n, ds, rfl, ok, rfl⟩, q⟩ := h
  obtain ⟨v1, rfl, h1⟩ := dps1 hv
  refine ⟨_, pss_cons (ps_setLc (i := 1) (own := [("_law_room", 4)]) (g := gName 4) (tt := tYes) rfl sc_law_near.nd rfl rfl (sw_true rfl rfl rfl (by decide +kernel)) (pi_range1 rfl m1 (pa_cons (de_ix id_ix (dv 0) de_int) pa_nil)) (blkOk_by (N := nLawNear) (sc := defScope sLawNear) (by decide +kernel))
      (fun _ _ _ _ _ => pg_name (i := 4) sc_law_near.nd rfl (.inl rfl)) (fun _ _ _ _ _ => pts_nil) (fun _ _ _ _ _ => pe_lst pa_nil))
    (pss_cons (ps_for PassesOwn.never rfl (pi_tup (de_ix id_ix (dv 0) de_int)) (pg_tup rfl (pgs_cons (pg_name (i := 2) sc_law_near.nd rfl (.inl rfl)) (pgs_cons (pg_name (i := 3) sc_law_near.nd rfl (.inl rfl)) pgs_nil)))
      (pss_cons (ps_expr (pe_bm PySem.F.plainAttrs_list PySem.F.slot_list_append PySem.F.type_list_append mt_append (pe_ix ix_list (pv 1) (pv 2) (fun _ _ => rfl)) (pa_cons (pv 3) pa_nil)))
        (pss_one (ps_expr (pe_bm PySem.F.plainAttrs_list PySem.F.slot_list_append PySem.F.type_list_append mt_append (pe_ix ix_list (pv 1) (pv 3) (fun _ _ => rfl)) (pa_cons (pv 2) pa_nil))))))
    (pss_one (ps_ret (pv 1)))), ?_⟩
  have sd0 : SD K H (L2.start nLawNear [v1]) [some (dHouse n ds)] := sd_cons h1 sd_nil
  have n8 := ok.n8
  refine ⟨_, _, sd0, ⟨_, _, rfl, rfl, ⟨_, 0, .inr rfl, rfl, rfl⟩⟩, fun v H1 e1 hv => ⟨(n : Int), by rw [dp_int hv], by omega, by omega, fun D hD => ?_⟩⟩
  rw [show ((n : Int)).toNat = n from Int.toNat_natCast n]
  refine fs_start (K := K) e1 hD (by omega) fun H2 ps fs => ?_
  refine ⟨_, _, (sd_cons (dp_ex fs.ex h1) sd_nil : SD K H2 _ [some (dHouse n ds)]), ⟨_, _, rfl, rfl, ⟨_, 1, .inr rfl, rfl, rfl⟩⟩, fun v H3 e3 hv => ?_⟩
  obtain ⟨a, xs, rfl, hsq, hda⟩ := dp_tuple hv
  refine ⟨a, rfl, ⟨xs, hsq⟩, near_loop (i1 := 1) (i2 := 2) (i3 := 3) ok hsq hda (fs.ext e3) rfl (by show 2 < 5; decide) (by show 3 < 5; decide) (by decide) (by decide) (by decide) fun y2 y3 H4 fs4 eT4 => ?_⟩
  exact ⟨.ref D, rfl, q _ H4 fs4.ex fs4.dp⟩
end
end Mx
/-! P3: is_largest, largest_in, state_of -/
namespace Mx
open PySem PySem.Spec PyProof.Rows L2
section
variable {P : Program} {w : World} {K : PySem.W.Frag} {mg : Str → Option Value} {base : Heap}
abbrev sIsLargest : Stmt := topS 23
abbrev nIsLargest : List Str := ["rows", "rooms", "some", "room", "other"]
theorem sc_is_largest : FnScope nIsLargest ["rows", "rooms", "some"] (defScope sIsLargest) := ⟨rfl, rfl, rfl, by decide +kernel, rfl, by decide +kernel, by decide +kernel⟩
def gIsLargest : List PyData → PyData → Prop := fun as d => ∃ (n : Nat) (rows : List (List Nat)) (rooms some : List Nat), as = [dRows rows, dL rooms, dL some] ∧ RowsB n rows ∧ (∀ r ∈ rooms, r < n) ∧ rooms.length ≤ 1000 ∧ d = .bool (isLgF rows rooms some)
theorem sz_le {n : Nat} (h : n ≤ 1000) : n ≤ sizeLine := Nat.le_of_lt (small1000 h)
theorem ok_is_largest (D : DefAt K mg "is_largest" sIsLargest ["rows", "rooms", "some"]) (m1 : mg "all" = none) (m2 : mg "any" = none) : Has P w K mg base 1 "is_largest" ["rows", "rooms", "some"] (spD K gIsLargest) := by
  refine has_of D sc_is_largest (lenD fun ds d ⟨i, a, b, c, e, _⟩ => by rw [e]; rfl) fun f cdv A outer s H vs Q E hr h => ?_
  obtain ⟨as, d, hv, ⟨n, rows, rooms, sm, rfl, hb, hlt, hle, rfl⟩, q⟩ := h
  obtain ⟨v1, v2, v3, rfl, h1, h2, h3⟩ := dps3 hv
  refine ⟨_, pss_one (ps_ret (de_bi (cd_all rfl) rfl m1 bb_all (da_cons (de_lcT (x := "room") (j := 3) rfl sc_is_largest.nd rfl (dv 1) (blkOk_by (N := nIsLargest) (sc := defScope sIsLargest) (by decide +kernel)) (fun _ _ _ _ _ => pg_name (i := 3) sc_is_largest.nd rfl (.inl rfl)) (fun _ _ _ _ _ => dts_nil)
    (fun _ _ _ _ _ => de_or (de_cmp od_in (dv 3) (dv 2) rfl) (pe_one (de_bi (cd_any rfl) rfl m2 bb_any (da_cons (de_lc (x := "other") (j := 4) rfl sc_is_largest.nd rfl (de_ix id_ix (dv 0) (dv 3)) (blkOk_by (N := nIsLargest) (sc := relS _ (defScope sIsLargest)) (by decide +kernel)) (fun _ _ _ _ _ => pg_name (i := 4) sc_is_largest.nd rfl (.inl rfl)) (fun _ _ _ _ _ => dts_nil)
      (fun _ _ _ _ _ => de_cmp od_in (dv 4) (dv 2) rfl)) da_nil))))) da_nil))), ?_⟩
  refine ret_D (sd_cons h1 (sd_cons h2 (sd_cons h3 (sd_skip (sd_skip sd_nil))))) ⟨_, ⟨_, _, ⟨_, ⟨Nat, rooms, dN, fun _ => true, fun r => .bool (decide (r ∈ sm) || (rows.getD r []).any fun o => decide (o ∈ sm)), rfl, ⟨sz_le hle, fun _ _ => rfl, fun r hr _ => ⟨rfl, fOrV_mk ⟨_, _, rfl, rfl, gInN r sm⟩ fun _ => ?_⟩⟩, rfl⟩, rfl⟩, rfl, rfl⟩, gAll_map _ _⟩ q
  exact ⟨_, ⟨_, _, ⟨_, ⟨Nat, rows.getD r [], dN, fun _ => true, fun o => .bool (decide (o ∈ sm)), ⟨_, _, rfl, rfl, gIx_rows hb (hlt r hr)⟩, ⟨sz_le (hb.get r), fun _ _ => rfl, fun o _ _ => ⟨rfl, ⟨_, _, rfl, rfl, gInN o sm⟩⟩⟩, rfl⟩, rfl⟩, rfl, rfl⟩, gAny_map _ _⟩

abbrev sLargestIn : Stmt := topS 22
abbrev nLargestIn : List Str := ["rows", "rooms", "found", "room", "some", "other"]
theorem sc_largest_in : FnScope nLargestIn ["rows", "rooms"] (defScope sLargestIn) := ⟨rfl, rfl, rfl, by decide +kernel, rfl, by decide +kernel, by decide +kernel⟩
def gLargestIn : List PyData → List PyData → Prop := fun as es => ∃ (n : Nat) (rows : List (List Nat)) (rooms : List Nat), as = [dRows rows, dL rooms] ∧ RowsB n rows ∧ (∀ r ∈ rooms, r < n) ∧ rooms ≠ [] ∧ rooms.length ≤ 8 ∧ es = (largestF rows rooms).map dL
theorem noLs_dLs : ∀ l : List (List Nat), noLs (l.map dL) = true := fun l => noLs_of fun d hd => by
  obtain ⟨a, _, rfl⟩ := List.mem_map.mp hd
  exact noL_dL a
theorem pow8 {k : Nat} (h : k ≤ 8) : 2 ^ k ≤ 256 := Nat.pow_le_pow_right (by decide) h
theorem ok_largest_in (D : DefAt K mg "largest_in" sLargestIn ["rows", "rooms"]) (m1 : mg "sorted" = none) (m2 : mg "any" = none) (F1 : Has P w K mg base 1 "is_largest" ["rows", "rooms", "some"] (spD K gIsLargest)) : Has P w K mg base 2 "largest_in" ["rows", "rooms"] (spL K gLargestIn) := by
  refine has_of D sc_largest_in (lenL fun ds d ⟨i, a, b, e, _⟩ => by rw [e]; rfl) fun f cdv A outer s H vs Q E hr h => ?_
  obtain ⟨as, es, hv, ⟨n, rows, rooms, rfl, hb, hlt, h0, hle, rfl⟩, q⟩ := h
  obtain ⟨v1, v2, rfl, h1, h2⟩ := dps2 hv
  refine ⟨_, pss_cons (ps_set (i := 2) sc_largest_in.nd rfl (.inl rfl) (pe_lst (pa_cons (de_tup da_nil) pa_nil)))
    (pss_cons (ps_for PassesOwn.never rfl (pi_tup (dv 1)) (pg_name (i := 3) sc_largest_in.nd rfl (.inr rfl))
      (pss_one (ps_expr (pe_bm PySem.F.plainAttrs_list PySem.F.slot_list_extend PySem.F.type_list_extend mt_extend (pv 2) (pa_cons (dl_lc (x := "some") (j := 4) rfl sc_largest_in.nd rfl (dv 2) (blkOk_by (N := nLargestIn) (sc := defScope sLargestIn) (by decide +kernel)) (fun _ _ _ _ _ => pg_name (i := 4) sc_largest_in.nd rfl (.inr rfl))
        (fun _ _ _ _ _ => dts_one (dt_not (dt_val (de_bi (cd_any rfl) rfl m2 bb_any (da_cons (de_lc (x := "other") (j := 5) rfl sc_largest_in.nd rfl (de_ix id_ix (dv 0) (dv 3)) (blkOk_by (N := nLargestIn) (sc := relS _ (defScope sLargestIn)) (by decide +kernel)) (fun _ _ _ _ _ => pg_name (i := 5) sc_largest_in.nd rfl (.inl rfl)) (fun _ _ _ _ _ => dts_nil)
          (fun _ _ _ _ _ => de_cmp od_in (dv 5) (dv 4) rfl)) da_nil)))))
        (fun _ _ _ _ _ => de_tup (da_star (dv 4) (da_cons (dv 3) da_nil)))) pa_nil)))))
    (pss_one (ps_ret (dl_sorted hr.units rfl m1 bb_sorted (de_lc (x := "some") (j := 4) rfl sc_largest_in.nd rfl (dv 2) (blkOk_by (N := nLargestIn) (sc := defScope sLargestIn) (by decide +kernel)) (fun _ _ _ _ _ => pg_name (i := 4) sc_largest_in.nd rfl (.inl rfl))
      (fun _ _ _ _ _ => dts_one (dt_val (de_def F1 hr (by decide) rfl (da_cons (dv 0) (da_cons (dv 1) (da_cons (dv 4) da_nil)))))) (fun _ _ _ _ _ => dv 4)))))), ?_⟩
  have sd0 : SD K H (L2.start nLargestIn [v1, v2]) [some (dRows rows), some (dL rooms)] := sd_cons h1 (sd_cons h2 sd_nil)
  refine ⟨_, _, sd0, ⟨[], rfl, Nat.zero_le _, rfl⟩, fun v0 H1 e1 hv0 => ⟨by show 1 ≤ sizeLine; decide, fun p hp => ?_⟩⟩
  have hpH : H p = none := Evl.fresh_back e1 hp
  have e2 : Ex H (upd H1 p (.lst [v0])) := e1.trans (Evl.Ex.new hp)
  refine ⟨_, _, (sd_cons (dp_ex e2 h1) (sd_cons (dp_ex e2 h2) sd_nil) : SD K _ _ [some (dRows rows), some (dL rooms)]), rfl, fun v H3 e3 hv => ?_⟩
  obtain ⟨a, xs, rfl, hsq, hda⟩ := dp_tuple hv
  have hlen : xs.length = rooms.length := by rw [dps_len hda, List.length_map]
  refine ⟨a, rfl, ⟨xs, hsq⟩, for_tup (xs := xs) (fun i σ' H' => ∃ y3, σ' = [some v1, some v2, some (.ref p), y3, none, none] ∧ Ex H H' ∧ ExT K H3 H' ∧ ∃ acc, H' p = some (.lst acc) ∧ DpAll K H' acc ((foundF rows (rooms.take i)).map dL))
    ⟨none, rfl, e2.trans e3, ExT.refl, [v0], e3 _ _ upd_same, dps_one (dp_ex ((Evl.Ex.new hp).trans e3) hv0)⟩ (fun i σ' H' _ ⟨_, _, _, eT, _⟩ => eT _ _ hsq) (fun i x σ' H' hx hp' => ?_) (fun σ' H' hp' => ?_)⟩
  · obtain ⟨y3, rfl, eH, eT, acc, hacc, hdacc⟩ := hp'
    have hi : i < rooms.length := by rw [← hlen]; exact (List.getElem?_eq_some_iff.mp hx).1
    obtain ⟨dx, hdx, hpx⟩ := dps_get' hda hx
    have hri : rooms[i]? = some rooms[i] := List.getElem?_eq_getElem hi
    rw [List.getElem?_map, hri] at hdx
    cases hdx
    have hrn := hlt rooms[i] (List.getElem_mem hi)
    generalize rooms[i] = r at hri hpx hrn
    have hfl : (foundF rows (rooms.take i)).length ≤ 256 := Nat.le_trans (foundF_le _ _) (pow8 (by rw [List.length_take]; omega))
    have sd1 : SD K H' [some v1, some v2, some (.ref p), some x, none, none] [some (dRows rows), some (dL rooms), some (.list ((foundF rows (rooms.take i)).map dL)), some (dN r), none, none] :=
      sd_cons (dp_ex eH h1) (sd_cons (dp_ex eH h2) (sd_cons (dp_lst_at hacc hdacc) (sd_cons (dp_int hpx ▸ .int _) (sd_skip (sd_skip sd_nil)))))
    refine ⟨.ref p, rfl, .inl ⟨rfl, _, .inl (.inl hacc)⟩, _, _, sd1, ⟨List Nat, foundF rows (rooms.take i), dL, freeF rows r, fun s => dL (s ++ [r]), rfl, ⟨sz_le (by omega), fun sm _ => ⟨_, ⟨_, ⟨_, _, ⟨_, ⟨Nat, rows.getD r [], dN, fun _ => true, fun o => .bool (decide (o ∈ sm)), ⟨_, _, rfl, rfl, gIx_rows hb hrn⟩, ⟨sz_le (hb.get r), fun _ _ => rfl, fun o _ _ => ⟨rfl, ⟨_, _, rfl, rfl, gInN o sm⟩⟩⟩, rfl⟩, rfl⟩, rfl, rfl⟩, gAny_map _ _⟩, rfl⟩,
      fun sm hsm _ => ⟨noL_dL _, ⟨_, ⟨_, _, .inl rfl, ⟨_, _, rfl, rfl, rfl⟩, rfl⟩, ?_, ?_⟩⟩⟩, rfl⟩, fun p2 acc2 H4 hp2 e4 hacc2 hd2 => ?_⟩
    · have hs := foundF_sub rows (rooms.take i) [] [[]] (fun t ht => by simp at ht; subst ht; exact List.Sublist.refl _) sm hsm
      have hsl := hs.length_le
      simp at hsl
      rw [List.length_append, List.length_map]
      exact sz_le (by show sm.length + 1 ≤ 1000; omega)
    · show dL (sm ++ [r]) = .tuple (sm.map dN ++ [dN r])
      unfold dL
      rw [List.map_append]
      rfl
    · have hacc4 : H4 p = some (.lst acc) := e4 _ _ hacc
      have hl1 := dps_len hdacc
      have hl2 := dps_len hd2
      rw [List.length_map] at hl1
      have hl3 : (lcOut (foundF rows (rooms.take i)) (freeF rows r) fun s => dL (s ++ [r])).length ≤ (foundF rows (rooms.take i)).length := lcOut_len
      refine ⟨p, p2, acc, acc2, rfl, rfl, hacc4, hacc2, sz_le (by omega), some x, rfl, ?_, ?_, acc ++ acc2, upd_same, ?_⟩
      · intro b o hb
        rw [upd_ne (ne_of_none hb hpH)]
        exact e4 _ _ (eH _ _ hb)
      · exact (eT.trans (Ex.t e4)).trans (ext_upd hacc4)
      · rw [foundF_take rows rooms i r hri, List.map_append, List.map_map]
        refine dps_app (dps_td (ext_upd hacc4) _ _ (noLs_dLs _) (dps_ex e4 hdacc)) (dps_td (ext_upd hacc4) _ _ (noLs_of fun d hd => ?_) hd2)
        obtain ⟨t, _, rfl⟩ := List.mem_map.mp hd
        exact noL_dL _
  · obtain ⟨y3, rfl, eH, eT, acc, hacc, hdacc⟩ := hp'
    rw [hlen, List.take_length] at hdacc
    have hfl : (foundF rows rooms).length ≤ 256 := Nat.le_trans (foundF_le _ _) (pow8 hle)
    refine retL_D (sd_cons (dp_ex eH h1) (sd_cons (dp_ex eH h2) (sd_cons (dp_lst_at hacc hdacc) (sd_skip (sd_skip (sd_skip sd_nil)))))) ⟨_, ⟨_, ⟨List Nat, foundF rows rooms, dL, isLgF rows rooms, dL, rfl, ⟨sz_le (by omega), fun sm _ => ⟨_, ⟨_, _, rfl, ⟨_, _, rfl, ⟨_, _, rfl, rfl, rfl⟩, rfl⟩, rfl⟩, ⟨n, rows, rooms, sm, rfl, hb, hlt, by omega, rfl⟩⟩, fun sm _ _ => ⟨noL_dL _, rfl⟩⟩, rfl⟩, rfl⟩, gSortL_dL _ ?_ ?_⟩ fun p2 acc2 H4 hp2 e4 hacc2 hd2 => q p2 acc2 H4 (Evl.fresh_back eH hp2) (eH.trans e4) hacc2 hd2
    · exact sz_le (Nat.le_trans (List.length_filter_le _ _) (by omega))
    · intro t ht
      exact lg_ne h0 (List.mem_filter.mp ht).2
end
end Mx
/-! P4: state_of, layers_from, all_rests, rests -/
namespace Mx
open PySem PySem.Spec PyProof.Rows L2
section
variable {P : Program} {w : World} {K : PySem.W.Frag} {mg : Str → Option Value} {base : Heap}
/-! ### state_of -/
abbrev sStateOf : Stmt := topS 25
abbrev nStateOf : List Str := ["size", "layers", "found", "number", "some", "room"]
theorem sc_state_of : FnScope nStateOf ["size", "layers"] (defScope sStateOf) := ⟨rfl, rfl, rfl, by decide +kernel, rfl, by decide +kernel, by decide +kernel⟩
def gStateOf : List PyData → PyData → Prop := fun as d => ∃ (n : Nat) (l : List (List Nat)), as = [dN n, dLay l] ∧ n ≤ 1000 ∧ (∀ s ∈ l, ∀ r ∈ s, r < n) ∧ d = dL (stateF n l)
/-- found[room] = number -/
theorem set_nat {K : PySem.W.Frag} {σ : L2.St} {H : Hp} {De : Ends} {p : Addr} {ns : List Nat} {i j k a b : Nat} (h1 : σ[i]? = some (some (.ref p))) (h2 : σ[j]? = some (some (vN a))) (h3 : σ[k]? = some (some (vN b))) (hH : H p = some (.lst (ns.map vN))) (ha : a < ns.length)
    (q : De.nx σ (upd H p (.lst ((ns.set a b).map vN)))) : tAsg (tVar k) (gSub (tVar i) (tVar j) rSetL) De σ H := by
  refine ⟨_, h3, _, h1, _, h2, p, ns.map vN, (a : Int), a, rfl, rfl, hH, ?_, ?_⟩
  · rw [List.length_map]
    exact Evl.ixN_nat ha
  · rw [List.map_set] at q
    exact q
theorem ok_state_of (D : DefAt K mg "state_of" sStateOf ["size", "layers"]) (m1 : mg "enumerate" = none) (m2 : mg "tuple" = none) : Has P w K mg base 1 "state_of" ["size", "layers"] (spD K gStateOf) := by
  refine has_of D sc_state_of (lenD fun ds d ⟨i, a, e, _⟩ => by rw [e]; rfl) fun f cdv A outer s H vs Q E hr h => ?_
  obtain ⟨as, d, hv, ⟨n, l, rfl, hn, hlt, rfl⟩, q⟩ := h
  obtain ⟨v1, v2, rfl, h1, h2⟩ := dps2 hv
  refine ⟨_, pss_cons (ps_set (i := 2) sc_state_of.nd rfl (.inl rfl) (pe_op op_rep (pe_lst (pa_cons pe_int pa_nil)) (pv 0)))
    (pss_cons (ps_for PassesOwn.never rfl (pi_enumT rfl m1 (dv 1)) (pg_tup rfl (pgs_cons (pg_name (i := 3) sc_state_of.nd rfl (.inl rfl)) (pgs_cons (pg_name (i := 4) sc_state_of.nd rfl (.inl rfl)) pgs_nil)))
      (pss_one (ps_for PassesOwn.never rfl (pi_tup (dv 4)) (pg_name (i := 5) sc_state_of.nd rfl (.inl rfl)) (pss_one (ps_asg (pv 3) (pg_sub (pv 2) (pv 5) set_list))))))
    (pss_one (ps_ret (de_ty cd_tuple rfl m2 bt_tuple (da_cons (dv 2) da_nil))))), ?_⟩
  refine ⟨by show 1 ≤ sizeLine; decide, fun p0 hp0 => ⟨_, rfl, p0, (n : Int), [.int 0], rfl, dp_int h1, upd_same, by omega, by omega, ?_, fun p hp => ?_⟩⟩
  · rw [Int.toNat_natCast]
    exact sz_le (by simp; omega)
  have e1 : Ex H (upd (upd H p0 (.lst [.int 0])) p (.lst (List.replicate n [V.int 0]).flatten)) := (Evl.Ex.new hp0).trans (Evl.Ex.new hp)
  rw [Int.toNat_natCast]
  have hpH : H p = none := Evl.fresh_back (Evl.Ex.new hp0) hp
  have hrep : ∀ m : Nat, (List.replicate m [V.int 0]).flatten = (List.replicate m 0).map vN := by
    intro m
    rw [List.map_replicate]
    induction m with
    | zero => rfl
    | succ m ih => rw [List.replicate_succ, List.flatten_cons, List.replicate_succ, ih]; rfl
  rw [hrep] at e1 ⊢
  generalize hHa : upd (upd H p0 (.lst [.int 0])) p (.lst ((List.replicate n 0).map vN)) = Ha at e1 ⊢
  have hHap : Ha p = some (.lst ((List.replicate n 0).map vN)) := by rw [← hHa, upd_same]
  refine ⟨_, _, (sd_skip (sd_cons (dp_ex e1 h2) sd_nil) : SD K _ _ [none, some (dLay l)]), rfl, fun v H3 e3 hv => ?_⟩
  obtain ⟨a, xs, rfl, hsq, hda⟩ := dp_tuple hv
  have hlen : xs.length = l.length := by rw [dps_len hda, List.length_map]
  have hzl : l.zipIdx.length = l.length := List.length_zipIdx
  refine ⟨a, xs, rfl, hsq, for_enumT (xs := xs) (fun i σ' H' => ∃ y3 y4 y5, σ' = [some v1, some v2, some (.ref p), y3, y4, y5] ∧ Ex H H' ∧ ExT K H3 H' ∧ H' p = some (.lst (((l.zipIdx.take i).foldl (fun a p => setAll p.2 a p.1) (List.replicate n 0)).map vN)))
    ⟨none, none, none, rfl, e1.trans e3, ExT.refl, e3 _ _ hHap⟩ (fun i σ' H' _ ⟨_, _, _, _, _, eT, _⟩ => eT _ _ hsq) (fun i x T σ' H' hx hp' hT => ?_) (fun σ' H' hp' => ?_)⟩
  · obtain ⟨y3, y4, y5, rfl, eH, eT, hacc⟩ := hp'
    have hi : i < l.length := by rw [← hlen]; exact (List.getElem?_eq_some_iff.mp hx).1
    obtain ⟨dx, hdx, hpx⟩ := dps_get' hda hx
    have hsi : l[i]? = some l[i] := List.getElem?_eq_getElem hi
    rw [List.getElem?_map, hsi] at hdx
    cases hdx
    have hsm := hlt l[i] (List.getElem_mem hi)
    have hzi : l.zipIdx[i]? = some (l[i], i) := by
      rw [List.getElem?_zipIdx, hsi]
      simp
    generalize l[i] = sm at hsi hpx hsm hzi
    generalize hac : (l.zipIdx.take i).foldl (fun a p => setAll p.2 a p.1) (List.replicate n 0) = ac at hacc
    have hacl : ac.length = n := by
      rw [← hac]
      have aux : ∀ (l : List (List Nat × Nat)) (acc : List Nat), (l.foldl (fun a p => setAll p.2 a p.1) acc).length = acc.length := by
        intro l
        induction l with
        | nil => intro acc; rfl
        | cons p l ih => intro acc; rw [List.foldl_cons, ih, setAll_len]
      rw [aux, List.length_replicate]
    have hTp : p ≠ T := ne_of_none hacc hT
    have eT1 : ExT K H3 (upd H' T (.tup [.int (i : Nat), x])) := eT.trans (Ex.t (Evl.Ex.new hT))
    have eH1 : Ex H (upd H' T (.tup [.int (i : Nat), x])) := eH.trans (Evl.Ex.new hT)
    have hac1 : (upd H' T (.tup [.int (i : Nat), x])) p = some (.lst (ac.map vN)) := by rw [upd_ne hTp]; exact hacc
    refine ⟨T, [.int (i : Nat), x], rfl, .inl (.inl upd_same), rfl, _, _, rfl, _, _, rfl, rfl, ?_⟩
    generalize upd H' T (.tup [.int (i : Nat), x]) = H5 at eT1 eH1 hac1 ⊢
    have hx5 : Dp K H5 x (dL sm) := dp_td eT1 _ _ (noL_dL sm) hpx
    refine ⟨[none, none, none, none, some (dL sm)], _, sd_skip (sd_skip (sd_skip (sd_skip (sd_cons hx5 sd_nil)))), rfl, fun v6 H6 e6 hv6 => ?_⟩
    obtain ⟨b, zs, rfl, hsz, hdz⟩ := dp_tuple hv6
    have hz : zs = sm.map vN := nats_dps hdz
    subst hz
    refine ⟨b, rfl, ⟨_, hsz⟩, for_tup (xs := sm.map vN) (fun j σ'' H'' => ∃ y5, σ'' = [some v1, some v2, some (.ref p), some (.int (i : Nat)), some x, y5] ∧ Ex H H'' ∧ ExT K H6 H'' ∧ H'' p = some (.lst ((setAll i ac (sm.take j)).map vN)))
      ⟨y5, rfl, eH1.trans e6, ExT.refl, e6 _ _ hac1⟩ (fun j σ'' H'' _ ⟨_, _, _, eT', _⟩ => eT' _ _ hsz) (fun j r' σ'' H'' hr' hp2 => ?_) (fun σ'' H'' hp2 => ?_)⟩
    · obtain ⟨y5', rfl, eH2, eT2, hac2⟩ := hp2
      rw [List.getElem?_map] at hr'
      obtain ⟨r, hr, rfl⟩ := Option.map_eq_some_iff.mp hr'
      have hrn := hsm r (List.mem_of_getElem? hr)
      refine set_nat (K := K) (i := 2) (j := 5) (k := 3) rfl rfl rfl hac2 (by rw [setAll_len]; omega) ⟨some (vN r), rfl, ?_, eT2.trans (ext_upd hac2), ?_⟩
      · intro b o hb
        rw [upd_ne (ne_of_none hb hpH)]
        exact eH2 _ _ hb
      · rw [upd_same]
        unfold setAll
        rw [take_fold (fun a r => a.set r i) ac sm j r hr]
    · obtain ⟨y5', rfl, eH2, eT2, hac2⟩ := hp2
      rw [List.length_map, List.take_length] at hac2
      refine ⟨_, _, _, rfl, eH2, (eT1.trans (Ex.t e6)).trans eT2, ?_⟩
      rw [take_fold _ _ l.zipIdx i (sm, i) hzi, hac]
      exact hac2
  · obtain ⟨y3, y4, y5, rfl, eH, eT, hacc⟩ := hp'
    rw [hlen, ← hzl, List.take_length] at hacc
    exact ret_D (sd_skip (sd_skip (sd_cons (dp_lst_at hacc (dps_nats _)) sd_nil))) ⟨_, ⟨_, _, rfl, rfl, rfl⟩, ⟨_, rfl, rfl⟩⟩ fun v7 H7 e7 hv7 => q v7 H7 (eH.trans e7) hv7

/-! ### layers_from -/
abbrev sLayersFrom : Stmt := topS 24
abbrev nLayersFrom : List Str := ["rows", "rooms", "known", "found", "some", "rest", "room", "more"]
theorem sc_layers_from : FnScope nLayersFrom ["rows", "rooms", "known"] (defScope sLayersFrom) := ⟨rfl, rfl, rfl, by decide +kernel, rfl, by decide +kernel, by decide +kernel⟩
def uT (n : Nat) : List NestedKey := (subs (List.range n)).map kT
/-- the list v, in G, of the rows of sets, in H -/
def LayL (K : PySem.W.Frag) (G H : Hp) (v : V) (rows : List (List Nat)) (rooms : List Nat) : Prop := ∃ a xs, v = .ref a ∧ SqL K G a xs ∧ DpAll K H xs ((layersF rows rooms.length rooms).map dLay)
def rdT (K : PySem.W.Frag) (rows : List (List Nat)) (G H : Hp) : V → NestedKey → Prop := fun v k => ∀ rooms, k = kT rooms → LayL K G H v rows rooms
theorem noL_dLay (l : List (List Nat)) : noL (dLay l) = true := noLs_dLs l
theorem noL_dLays (l : List (List (List Nat))) : noLs (l.map dLay) = true := noLs_of fun d hd => by
  obtain ⟨a, _, rfl⟩ := List.mem_map.mp hd
  exact noL_dLay a
theorem LayL.mono {G G' H H' : Hp} {v : V} {rows : List (List Nat)} {rooms : List Nat} (h : LayL K G H v rows rooms) (eG : Ex G G') (eT : ExT K H H') : LayL K G' H' v rows rooms :=
  let ⟨a, xs, e, hs, hd⟩ := h
  ⟨a, xs, e, Evl.ex_l eG hs, dps_td eT _ _ (noL_dLays _) hd⟩
theorem rdT_mono {G G' H H' : Hp} {rows : List (List Nat)} (eG : Ex G G') (eT : ExT K H H') : ∀ v k, rdT K rows G H v k → rdT K rows G' H' v k := fun v k h rooms e => (h rooms e).mono eG eT
/-- all that a call may add to G is new to H -/
def NewTo (H G G' : Hp) : Prop := Ex G G' ∧ ∀ b o, G' b = some o → G b = none → H b = none
structure LayIn (P : Program) (w : World) (K : PySem.W.Frag) (m : Nat) (H G : Hp) (d : Addr) (v1 v2 : V) (n : Nat) (rows : List (List Nat)) (rooms : List Nat) : Prop where
  g : Ex G H
  gd : G d = none
  r : Dp K G v1 (dRows rows)
  s : Dp K H v2 (dL rooms)
  b : RowsB n rows
  n8 : n ≤ 8
  sub : rooms.Sublist (List.range n)
  le : rooms.length ≤ m
  memo : Memo P w K (uT n) (rdT K rows G H) H d
def spLay (P : Program) (w : World) (K : PySem.W.Frag) (m : Nat) : Sp := fun vs H Q _ => ∃ (G : Hp) (d : Addr) (v1 v2 : V) (n : Nat) (rows : List (List Nat)) (rooms : List Nat), vs = [v1, v2, .ref d] ∧ LayIn P w K m H G d v1 v2 n rows rooms ∧
  ∀ v G' H', ExB d H H' → Ex G' H' → NewTo H G G' → G' d = none → Memo P w K (uT n) (rdT K rows G' H') H' d → LayL K G' H' v rows rooms → Q v H'
theorem uT_len {n : Nat} (h : n ≤ 8) : (uT n).length < sizeLine := by
  unfold uT
  rw [List.length_map, subs_len, List.length_range]
  exact Nat.lt_of_le_of_lt (pow8 h) (by decide)
theorem uT_mem {n : Nat} {rooms : List Nat} (h : rooms.Sublist (List.range n)) : kT rooms ∈ uT n := List.mem_map.mpr ⟨rooms, subs_mem h, rfl⟩
theorem layB8 {k : Nat} (h : k ≤ 6) : layB k ≤ sizeLine := Nat.le_trans (layB_mono h) (by decide)
theorem sub_lt {n : Nat} {rooms : List Nat} (h : rooms.Sublist (List.range n)) : ∀ r ∈ rooms, r < n := fun r hr => List.mem_range.mp (h.subset hr)
theorem sd_at {H : Hp} {σ : L2.St} {i : Nat} {v : V} {d : PyData} (h1 : σ[i]? = some (some v)) (h2 : Dp K H v d) : SD K H σ (List.replicate i none ++ [some d]) := fun j e q => by
  by_cases hj : j < i
  · rw [List.getElem?_append_left (by simpa using hj), List.getElem?_replicate, if_pos hj] at q
    cases q
  · by_cases hj2 : j = i
    · subst hj2
      rw [List.getElem?_append_right (by simp)] at q
      simp at q
      subst q
      exact ⟨v, h1, h2⟩
    · rw [List.getElem?_eq_none (by simp; omega)] at q
      cases q
theorem exb_t {d : Addr} {φ : Heap → Prop} {H H' : Hp} (hd : H d = some (.ext φ)) (e : ExB d H H') : ExT K H H' := fun a xs q => q.elim (fun q => .inl (rd_exb hd trivial e (.inr rfl) q)) .inr
theorem ok_layers_from (D : DefAt K mg "layers_from" sLayersFrom ["rows", "rooms", "known"]) (m1 : mg "tuple" = none) (F1 : Has P w K mg base 2 "largest_in" ["rows", "rooms"] (spL K gLargestIn)) :
    ∀ m : Nat, m ≤ 6 → Has P w K mg base (3 + m) "layers_from" ["rows", "rooms", "known"] (spLay P w K m) := by
  intro m
  have first : ∀ {v1 v2 : V} {H H1 G : Hp} {d n : Nat} {rows : List (List Nat)} {σ : L2.St} {De : Ends} {k : Nat}, LayIn P w K k H G d v1 v2 n rows [] → Ex H H1 → (∀ v G' H', ExB d H H' → Ex G' H' → NewTo H G G' → G' d = none → Memo P w K (uT n) (rdT K rows G' H') H' d → LayL K G' H' v rows [] → De.rt v H') →
      tRet (tLst (tCons (tD K (fTup fNil)) tNil)) De σ H1 := by
    intro v1 v2 H H1 G d n rows σ De k hin e1 q
    refine ⟨[], _, sd_nil, ⟨[], rfl, Nat.zero_le _, rfl⟩, fun v0 H2 e2 hv0 => ⟨by show 1 ≤ sizeLine; decide, fun p hp => ?_⟩⟩
    have e3 : Ex H (upd H2 p (.lst [v0])) := (e1.trans e2).trans (Evl.Ex.new hp)
    have hpH : H p = none := Evl.fresh_back (e1.trans e2) hp
    have hpG : G p = none := Evl.fresh_back hin.g hpH
    obtain ⟨φ, hφ⟩ := hin.memo.at_
    have hdp : d ≠ p := ne_of_none hφ hpH
    have eG : Ex G (upd G p (.lst [v0])) := Evl.Ex.new hpG
    refine q (.ref p) (upd G p (.lst [v0])) _ (ExB.of e3) (fun b o hb => ?_) ⟨eG, fun b o hb hn => ?_⟩ ?_ (hin.memo.ex e3 (rdT_mono eG (Ex.t e3))) ⟨p, [v0], rfl, .inl (.inl upd_same), dps_one (dp_ex (Evl.Ex.new hp) hv0)⟩
    · by_cases h : b = p
      · subst h
        rw [upd_same] at hb ⊢
        exact hb
      · rw [upd_ne h] at hb ⊢
        exact e2 _ _ (e1 _ _ (hin.g _ _ hb))
    · by_cases h : b = p
      · rw [h]
        exact hpH
      · rw [upd_ne h, hn] at hb
        cases hb
    · rw [upd_ne hdp]
      exact hin.gd
  induction m with
  | zero =>
    intro _
    refine has_of D sc_layers_from (fun vs H Q E ⟨_, _, _, _, _, _, _, e, _⟩ => by rw [e]; rfl) fun f cdv A outer s H vs Q E hr h => ?_
    obtain ⟨G, d, v1, v2, n, rows, rooms, rfl, hin, q⟩ := h
    obtain rfl : rooms = [] := List.length_eq_zero_iff.mp (Nat.le_zero.mp hin.le)
    refine ⟨_, pss_cons (ps_if (dt_cmp (od_eq hr.units) (dv 1) (de_tup da_nil) (nomark _)) (pss_one (ps_ret (pe_lst (pa_cons (de_tup da_nil) pa_nil)))) pss_nil) pss_never, ?_⟩
    exact if_D true (sd_skip (sd_cons hin.s sd_nil)) ⟨_, _, rfl, ⟨[], rfl, Nat.zero_le _, rfl⟩, gEq_dL [] []⟩ (fun _ H1 e1 => first hin e1 q) (fun h => nomatch h)
  | succ m ih =>
    intro hm
    have ih := ih (by omega)
    refine has_of D sc_layers_from (fun vs H Q E ⟨_, _, _, _, _, _, _, e, _⟩ => by rw [e]; rfl) fun f cdv A outer s H vs Q E hr h => ?_
    obtain ⟨G, d, v1, v2, n, rows, rooms, rfl, hin, q⟩ := h
    refine ⟨_, pss_cons (ps_if (dt_cmp (od_eq hr.units) (dv 1) (de_tup da_nil) (nomark _)) (pss_one (ps_ret (pe_lst (pa_cons (de_tup da_nil) pa_nil)))) pss_nil)
      (pss_cons (ps_if (pt_cmpR (op_mnot hr.units) (dv 1) (pv 2) rfl)
        (pss_cons (ps_set (i := 3) sc_layers_from.nd rfl (.inl rfl) (pe_lst pa_nil))
        (pss_cons (ps_for PassesOwn.never rfl (pi_list (dl_def F1 hr (show 2 ≤ 3 + m by omega) rfl (da_cons (dv 0) (da_cons (dv 1) da_nil)))) (pg_name (i := 4) sc_layers_from.nd rfl (.inr rfl))
          (pss_cons (ps_set (i := 5) sc_layers_from.nd rfl (.inl rfl) (de_ty cd_tuple rfl m1 bt_tuple (da_cons (de_lcT (x := "room") (j := 6) rfl sc_layers_from.nd rfl (dv 1) (blkOk_by (N := nLayersFrom) (sc := defScope sLayersFrom) (by decide +kernel)) (fun _ _ _ _ _ => pg_name (i := 6) sc_layers_from.nd rfl (.inl rfl))
            (fun _ _ _ _ _ => dts_one (dt_cmp od_notIn (dv 6) (dv 4) rfl)) (fun _ _ _ _ _ => dv 6)) da_nil)))
          (pss_one (ps_expr (pe_bm PySem.F.plainAttrs_list PySem.F.slot_list_extend PySem.F.type_list_extend mt_extend (pv 3) (pa_cons (pe_lc (own := [("more", 7)]) (g := gName 7) (tt := tDT K tYesD) (te := tD K (fTup (fCons (fV 4) (fStar (fV 7) fNil)))) rfl sc_layers_from.nd
            (pi_list (pe_def ih hr (Nat.le_refl _) rfl (pa_cons (pv 0) (pa_cons (pv 5) (pa_cons (pv 2) pa_nil))))) (blkOk_by (N := nLayersFrom) (sc := defScope sLayersFrom) (by decide +kernel)) (fun _ _ _ _ _ => pg_name (i := 7) sc_layers_from.nd rfl (.inl rfl)) (fun _ _ _ _ _ => dts_nil)
            (fun _ _ _ _ _ => de_tup (da_cons (dv 4) (da_star (dv 7) da_nil)))) pa_nil))))))
        (pss_one (ps_mput hr.units (pv 2) (dv 1) (pv 3))))) pss_nil)
      (pss_one (ps_ret (pe_mget hr.units (pv 2) (dv 1) (fun _ _ => rfl))))), ?_⟩
    obtain ⟨φ, hφ⟩ := hin.memo.at_
    have hk : (kT rooms).data = dL rooms := data_kT rooms
    have hkn : noL (kT rooms).data = true := by rw [hk]; exact noL_dL rooms
    have hkd : (kT rooms).depth ≤ 8 := by rw [depth_kT]; decide
    -- return known[rooms]
    have tail : ∀ (σ' : L2.St) (G' H' : Hp), σ'[1]? = some (some v2) → σ'[2]? = some (some (.ref d)) → ExB d H H' → Ex G' H' → NewTo H G G' → G' d = none → MemoAt P w K (uT n) (rdT K rows G' H') H' d (kT rooms) →
        tRet (tOp (rMGet P w K) (tVar 2) (tD K (fV 1))) { nx := fun _ H' => Q .non H', rt := Q } σ' H' := by
      intro σ' G' H' g1 g2 eB eG nG gd hat
      have hs' : Dp K H' v2 (dL rooms) := dp_td (exb_t hφ eB) _ _ (noL_dL rooms) hin.s
      refine ⟨_, g2, _, _, sd_at g1 hs', rfl, fun v H2 e2 hv => ⟨d, _, _, _, rfl, hat.ex e2 (rdT_mono (Evl.Ex.refl _) (Ex.t e2)), by rw [← kT, hk]; exact hv, hkd, fun v' hv' => ?_⟩⟩
      exact q v' G' H2 (eB.trans (ExB.of e2)) (eG.trans e2) nG gd (hat.memo.ex e2 (rdT_mono (Evl.Ex.refl _) (Ex.t e2))) (hv' rooms rfl)
    by_cases h0 : rooms = []
    · subst h0
      exact if_D true (sd_skip (sd_cons hin.s sd_nil)) ⟨_, _, rfl, ⟨[], rfl, Nat.zero_le _, rfl⟩, gEq_dL [] []⟩ (fun _ H1 e1 => first hin e1 q) (fun h => nomatch h)
    refine if_D false (sd_skip (sd_cons hin.s sd_nil)) ⟨_, _, rfl, ⟨[], rfl, Nat.zero_le _, rfl⟩, by have := gEq_dL rooms []; rw [decide_eq_false h0] at this; exact this⟩ (fun h => nomatch h) (fun _ H1 e1 => ?_)
    refine ⟨_, _, (sd_skip (sd_cons (dp_ex e1 hin.s) sd_nil) : SD K H1 _ [none, some (dL rooms)]), rfl, fun vk H2 e2 hvk => ⟨.ref d, rfl, d, _, _, _, rfl, hin.memo.ex (e1.trans e2) (rdT_mono (Evl.Ex.refl _) (Ex.t (e1.trans e2))), by rw [← kT, hk]; exact hvk, hkd, fun hat => ⟨false, rfl, ?_⟩, ⟨true, rfl, ?_⟩⟩⟩
    · dsimp only
      rw [if_neg Bool.false_ne_true]
      exact tail _ G H2 rfl rfl (ExB.of (e1.trans e2)) (hin.g.trans (e1.trans e2)) ⟨Evl.Ex.refl _, fun b o h1 h2 => by rw [h2] at h1; cases h1⟩ hin.gd hat
    dsimp only
    rw [if_pos rfl]
    have e12 : Ex H H2 := e1.trans e2
    -- found = []
    refine ⟨Nat.zero_le _, fun p hp => ?_⟩
    have hpH : H p = none := Evl.fresh_back e12 hp
    have hpG : G p = none := Evl.fresh_back hin.g hpH
    have e3 : Ex H (upd H2 p (.lst [])) := e12.trans (Evl.Ex.new hp)
    have hHap : (upd H2 p (.lst [])) p = some (.lst []) := upd_same
    generalize upd H2 p (.lst []) = H3 at e3 hHap ⊢
    have hdp : d ≠ p := ne_of_none hφ hpH
    -- for some in largest_in(rows, rooms)
    have hlt := sub_lt hin.sub
    have hrl : rooms.length ≤ 8 := Nat.le_trans hin.sub.length_le (by rw [List.length_range]; exact hin.n8)
    refine ⟨_, _, (sd_cons (dp_ex (hin.g.trans e3) hin.r) (sd_cons (dp_ex e3 hin.s) sd_nil) : SD K H3 _ [some (dRows rows), some (dL rooms)]), ⟨_, ⟨_, _, rfl, ⟨_, _, rfl, rfl, rfl⟩, rfl⟩, ⟨n, rows, rooms, rfl, hin.b, hlt, h0, hrl, rfl⟩⟩, fun qa acc H4 hqa e4 hacc hda => ⟨qa, rfl, ⟨acc, .inl (.inl hacc)⟩, ?_⟩⟩
    have hqp : qa ≠ p := (ne_of_none hHap hqa).symm
    have hqH : H qa = none := Evl.fresh_back e3 hqa
    have hqd : qa ≠ d := (ne_of_none hφ hqH).symm
    have hlen : acc.length = (largestF rows rooms).length := by rw [dps_len hda, List.length_map]
    have e04 : Ex H H4 := e3.trans e4
    have hLB : ∀ i, (((largestF rows rooms).take i).flatMap fun s => (layersF rows m (leftF rooms s)).map fun l => s :: l).length ≤ sizeLine := fun i => by
      refine Nat.le_trans (flat_le _ (layB m) _ fun s hs => ?_) (Nat.le_trans ?_ (layB8 hm))
      · rw [List.length_map]
        exact layersF_len rows m _ (by have := leftF_len h0 (List.mem_of_mem_take hs); have := hin.le; omega)
      · show _ ≤ 2 ^ (m + 1) * layB m
        refine Nat.mul_le_mul_right _ (Nat.le_trans (by rw [List.length_take]; exact Nat.min_le_right _ _) (Nat.le_trans (largestF_le rows rooms) (Nat.pow_le_pow_right (by decide) hin.le)))
    refine for_list (xs := acc) (fun i σ' H' => ∃ y4 y5 G' acc', σ' = [some v1, some v2, some (.ref d), some (.ref p), y4, y5, none, none] ∧ ExB d H H' ∧ ExT K H4 H' ∧ Ex G' H' ∧ NewTo H G G' ∧ G' d = none ∧ G' p = none ∧ Memo P w K (uT n) (rdT K rows G' H') H' d ∧
        H' p = some (.lst acc') ∧ DpAll K H' acc' ((((largestF rows rooms).take i).flatMap fun s => (layersF rows m (leftF rooms s)).map fun l => s :: l).map dLay) ∧ H' qa = some (.lst acc))
      ⟨none, none, G, [], rfl, ExB.of e04, ExT.refl, hin.g.trans e04, ⟨Evl.Ex.refl _, fun b o h1 h2 => by rw [h2] at h1; cases h1⟩, hin.gd, hpG, hin.memo.ex e04 (rdT_mono (Evl.Ex.refl _) (Ex.t e04)), e4 _ _ hHap, .nil, hacc⟩
      (fun i σ' H' _ ⟨_, _, _, _, _, _, _, _, _, _, _, _, _, _, h⟩ => .inl (.inl h)) (fun i x σ' H' hx hpv => ?_) (fun σ' H' hpv => ?_)
    · obtain ⟨y4, y5, G', acc', rfl, eB, eT, eG, nG, gd, gp, memo, hac, hdac, hqacc⟩ := hpv
      have hi : i < (largestF rows rooms).length := by rw [← hlen]; exact (List.getElem?_eq_some_iff.mp hx).1
      obtain ⟨dx, hdx, hpx⟩ := dps_get' hda hx
      have hsi : (largestF rows rooms)[i]? = some (largestF rows rooms)[i] := List.getElem?_eq_getElem hi
      rw [List.getElem?_map, hsi] at hdx
      cases hdx
      have hmem : (largestF rows rooms)[i] ∈ largestF rows rooms := List.getElem_mem hi
      generalize (largestF rows rooms)[i] = sm at hsi hpx hmem
      have hx1 : Dp K H' x (dL sm) := dp_td eT _ _ (noL_dL sm) hpx
      have hs1 : Dp K H' v2 (dL rooms) := dp_td (exb_t hφ eB) _ _ (noL_dL rooms) hin.s
      have hll := leftF_len h0 hmem
      -- rest = ..
      refine asg_D (sd_skip (sd_cons hs1 (sd_skip (sd_skip (sd_cons hx1 (sd_skip (sd_skip (sd_skip sd_nil)))))))) ⟨_, ⟨_, _, ⟨_, ⟨Nat, rooms, dN, fun r => !decide (r ∈ sm), dN, rfl, ⟨sz_le (by omega), fun r _ => ⟨_, _, rfl, rfl, gNotInN r sm⟩, fun r _ _ => ⟨rfl, rfl⟩⟩, rfl⟩, rfl⟩, rfl, rfl⟩, ⟨_, rfl, rfl⟩⟩ fun vr H5 e5 hvr => ?_
      have hvr : Dp K H5 vr (dL (leftF rooms sm)) := hvr
      have eG5 : Ex G' H5 := eG.trans e5
      have hp5 : H5 p = some (.lst acc') := e5 _ _ hac
      have hd5 : H' d = H5 d := by
        obtain ⟨φ', hφ'⟩ := memo.at_
        rw [hφ', e5 _ _ hφ']
      -- found.extend([..])
      refine ⟨.ref p, rfl, .inl ⟨rfl, _, .inl (.inl hp5)⟩, v1, rfl, vr, rfl, .ref d, rfl, G', d, v1, vr, n, rows, leftF rooms sm, rfl,
        ⟨eG5, gd, dp_ex nG.1 hin.r, hvr, hin.b, hin.n8, (leftF_sub rooms sm).trans hin.sub, by have := hin.le; omega, memo.ex e5 (rdT_mono (Evl.Ex.refl _) (Ex.t e5))⟩, fun v G2 H6 eB6 eG6 nG6 gd6 memo6 hv6 => ?_⟩
      obtain ⟨a, ys, rfl, hsq, hdy⟩ := hv6
      obtain ⟨φ6, hφ6⟩ := memo6.at_
      have hp6 : H6 p = some (.lst acc') := eB6 _ _ hdp.symm hp5
      have hq6 : H6 qa = some (.lst acc) := eB6 _ _ hqd (e5 _ _ hqacc)
      have gp6 : G2 p = none := by
        cases h : G2 p with
        | none => rfl
        | some o =>
          have := nG6.2 p o h gp
          rw [hp5] at this
          cases this
      have hsq6 : SqL K H6 a ys := Evl.ex_l eG6 hsq
      have eT56 : ExT K H5 H6 := exb_t (by rw [← hd5]; exact memo.at_.choose_spec) eB6
      have hx6 : Dp K H6 x (dL sm) := dp_td ((Ex.t e5).trans eT56) _ _ (noL_dL sm) hx1
      have hlay : (layersF rows (leftF rooms sm).length (leftF rooms sm)) = layersF rows m (leftF rooms sm) := layersF_any rows (Nat.le_refl _) (by have := hin.le; omega)
      rw [hlay] at hdy
      have hyl : ys.length = (layersF rows m (leftF rooms sm)).length := by rw [dps_len hdy, List.length_map]
      have L : Lc (α := List (List Nat)) [none, none, none, none, some (dL sm), none, none, none] 7 tYesD (fTup (fCons (fV 4) (fStar (fV 7) fNil))) (layersF rows m (leftF rooms sm)) dLay (fun _ => true) (fun l => dLay (sm :: l)) :=
        ⟨Nat.le_trans (layersF_len rows m _ (by have := hin.le; omega)) (layB8 (by omega)), fun _ _ => rfl, fun l hl _ => ⟨noL_dLay _, ⟨_, ⟨_, _, rfl, ⟨_, _, .inl rfl, rfl, rfl⟩, rfl⟩, by
          rw [List.length_cons, List.append_nil, List.length_map]
          exact sz_le (by have := layersF_long rows m _ l hl; omega), by rw [List.append_nil]; rfl⟩⟩⟩
      refine ⟨a, rfl, ⟨ys, hsq6⟩, fun D2 hD2 => lc_list (xs := ys) (fun k H' => LcPv K H6 D2 (lcOut ((layersF rows m (leftF rooms sm)).take k) (fun _ => true) fun l => dLay (sm :: l)) H') (lc_zero hD2) (fun k H' _ hp => Evl.ex_l hp.1 hsq6) (fun k y H' hy hpk => ?_) (fun H7 hp7 => ?_)⟩
      · obtain ⟨dy, hdy', hpy⟩ := dps_get' hdy hy
        rw [List.getElem?_map] at hdy'
        obtain ⟨l, hl, rfl⟩ := Option.map_eq_some_iff.mp hdy'
        exact lc_step L (sd_skip (sd_skip (sd_skip (sd_skip (sd_cons hx6 (sd_skip (sd_skip (sd_skip sd_nil)))))))) (Evl.Ex.refl H6) (by show 7 < 8; decide) hD2 hl hpy hpk
      · obtain ⟨e7, acc2, hacc2, hd2⟩ := hp7
        rw [hyl, List.take_length] at hd2
        have hp7 : H7 p = some (.lst acc') := e7 _ _ hp6
        have hD2p : D2 ≠ p := (ne_of_none hp6 hD2).symm
        have hstep : (((largestF rows rooms).take (i + 1)).flatMap fun s => (layersF rows m (leftF rooms s)).map fun l => s :: l) = (((largestF rows rooms).take i).flatMap fun s => (layersF rows m (leftF rooms s)).map fun l => s :: l) ++ (layersF rows m (leftF rooms sm)).map fun l => sm :: l := by
          rw [List.take_add_one, hsi, List.flatMap_append]
          simp
        have hout : lcOut (layersF rows m (leftF rooms sm)) (fun _ => true) (fun l => dLay (sm :: l)) = ((layersF rows m (leftF rooms sm)).map fun l => sm :: l).map dLay := by
          rw [lcOut_all, List.map_map]
          rfl
        rw [hout] at hd2
        have hdac7 : DpAll K H7 acc' ((((largestF rows rooms).take i).flatMap fun s => (layersF rows m (leftF rooms s)).map fun l => s :: l).map dLay) := dps_td (((Ex.t e5).trans eT56).trans (Ex.t e7)) _ _ (noL_dLays _) hdac
        have hdall := dps_app hdac7 hd2
        rw [← List.map_append, ← hstep] at hdall
        have hlall := dps_len hdall
        rw [List.length_map, List.length_append] at hlall
        have hb := hLB (i + 1)
        refine ⟨p, D2, acc', acc2, rfl, rfl, hp7, hacc2, by omega, some x, some vr, G2, acc' ++ acc2, rfl, ?_, ?_, ?_, ⟨nG.1.trans nG6.1, ?_⟩, gd6, gp6, ?_, upd_same, dps_td (ext_upd hp7) _ _ (noL_dLays _) hdall, ?_⟩
        · intro b o hbd hb
          rw [upd_ne (ne_of_none hb hpH)]
          exact e7 _ _ (eB6 _ _ hbd (e5 _ _ (eB _ _ hbd hb)))
        · exact ((eT.trans ((Ex.t e5).trans eT56)).trans (Ex.t e7)).trans (ext_upd hp7)
        · intro b o hb
          rw [upd_ne (ne_of_none hb gp6)]
          exact e7 _ _ (eG6 _ _ hb)
        · intro b o hb hn
          cases hg : G' b with
          | some o' => exact nG.2 b o' hg hn
          | none =>
            have h5 := nG6.2 b o hb hg
            cases hH : H b with
            | none => rfl
            | some o2 =>
              by_cases hbd : b = d
              · subst hbd
                rw [← hd5] at h5
                rw [memo.at_.choose_spec] at h5
                cases h5
              · have := e5 _ _ (eB _ _ hbd hH)
                rw [h5] at this
                cases this
        · refine memo6.keep ?_ ((Ex.t e7).trans (ext_upd hp7)) (rdT_mono (Evl.Ex.refl _) ((Ex.t e7).trans (ext_upd hp7)))
          rw [upd_ne hdp, e7 _ _ hφ6, hφ6]
        · rw [upd_ne hqp]
          exact e7 _ _ hq6
    · obtain ⟨y4, y5, G', acc', rfl, eB, eT, eG, nG, gd, gp, memo, hac, hdac, hqacc⟩ := hpv
      rw [hlen, List.take_length] at hdac
      have hs1 : Dp K H' v2 (dL rooms) := dp_td (exb_t hφ eB) _ _ (noL_dL rooms) hin.s
      have eGG : Ex G' (upd G' p (.lst acc')) := Evl.Ex.new gp
      have hlayr : layersF rows rooms.length rooms = (largestF rows rooms).flatMap fun s => (layersF rows m (leftF rooms s)).map fun l => s :: l := by
        rw [layersF_any rows (Nat.le_refl _) hin.le, layersF, if_neg h0]
      refine ⟨.ref p, rfl, .ref d, rfl, _, _, (sd_skip (sd_cons hs1 sd_nil) : SD K H' _ [none, some (dL rooms)]), rfl, fun vk2 H8 e8 hvk2 => ⟨d, _, _, rdT K rows G' H8, rdT K rows (upd G' p (.lst acc')) H8, rfl, memo.ex e8 (rdT_mono (Evl.Ex.refl _) (Ex.t e8)), by rw [← kT, hk]; exact hvk2, hkn, hkd, uT_mem hin.sub, uT_len hin.n8, rdT_mono eGG ExT.refl, ?_, fun H9 eB9 eT9 hat9 => ?_⟩⟩
      · intro rooms' e
        obtain rfl := kT_inj (show kT rooms = kT rooms' from e)
        refine ⟨p, acc', rfl, .inl (.inl upd_same), ?_⟩
        rw [hlayr]
        exact dps_ex e8 hdac
      · refine tail _ (upd G' p (.lst acc')) H9 rfl rfl ((eB.trans (ExB.of e8)).trans eB9) (fun b o hb => ?_) ⟨nG.1.trans eGG, fun b o hb hn => ?_⟩ ?_ (hat9.keep rfl ExT.refl (rdT_mono (Evl.Ex.refl _) eT9))
        · by_cases h : b = p
          · subst h
            rw [upd_same] at hb
            cases hb
            exact eB9 _ _ hdp.symm (e8 _ _ hac)
          · rw [upd_ne h] at hb
            exact eB9 _ _ (fun e => by subst e; rw [gd] at hb; cases hb) (e8 _ _ (eG _ _ hb))
        · by_cases h : b = p
          · rw [h]
            exact hpH
          · rw [upd_ne h] at hb
            exact nG.2 b o hb hn
        · rw [upd_ne hdp]
          exact gd
end
end Mx
/-! P5: all_rests, rests -/
namespace Mx
open PySem PySem.Spec PyProof.Rows L2
theorem noL_pairs : ∀ ds : List (Nat × Nat), noLs (ds.map dPair) = true := fun ds => noLs_of fun d hd => by
  obtain ⟨p, _, rfl⟩ := List.mem_map.mp hd
  rfl
theorem noL_house (n : Nat) (ds : List (Nat × Nat)) : noL (dHouse n ds) = true := by
  show (noL (dN n) && (noLs (ds.map dPair) && true)) = true
  rw [noL_pairs]
  rfl
theorem HouseOk.lt' {n : Nat} {ds : List (Nat × Nat)} (ok : HouseOk n ds) : ∀ p ∈ ds, p.1 < n ∧ p.2 < n := fun p hp => by
  have := ok.lt p hp
  omega
section
variable {P : Program} {w : World} {K : PySem.W.Frag} {mg : Str → Option Value} {base : Heap}
abbrev sAllRests : Stmt := topS 26
abbrev nAllRests : List Str := ["house", "some"]
theorem sc_all_rests : FnScope nAllRests ["house"] (defScope sAllRests) := ⟨rfl, rfl, rfl, by decide +kernel, rfl, by decide +kernel, by decide +kernel⟩
def gAllRests : List PyData → List PyData → Prop := fun as es => ∃ (n : Nat) (ds : List (Nat × Nat)), as = [dHouse n ds] ∧ HouseOk n ds ∧ n ≤ 6 ∧ es = (restsF n ds).map dL
theorem ok_all_rests (D : DefAt K mg "all_rests" sAllRests ["house"]) (m1 : mg "sorted" = none) (m2 : mg "tuple" = none) (m3 : mg "range" = none) (F1 : Has P w K mg base 1 "near" ["house"] (spD K gNear)) (F2 : Has P w K mg base 9 "layers_from" ["rows", "rooms", "known"] (spLay P w K 6))
    (F3 : Has P w K mg base 1 "state_of" ["size", "layers"] (spD K gStateOf)) : Has P w K mg base 10 "all_rests" ["house"] (spL K gAllRests) := by
  refine has_of D sc_all_rests (lenL fun ds d ⟨i, a, e, _⟩ => by rw [e]; rfl) fun f cdv A outer s H vs Q E hr h => ?_
  obtain ⟨as, es, hv, ⟨n, ds, rfl, ok, n6, rfl⟩, q⟩ := h
  obtain ⟨v0, rfl, h0⟩ := dps1 hv
  refine ⟨_, pss_one (ps_ret (pe_callB (cr_sortedL hr.units) rfl m1 bb_sorted (pa_cons (pe_lc (own := [("some", 1)]) (g := gName 1) (tt := tDT K tYesD) (te := tD K (fCall gStateOf (fCons (f2 gIx (fV 0) (fC (.int 0))) (fCons (fV 1) fNil)))) rfl sc_all_rests.nd
    (pi_list (pe_def F2 hr (Nat.le_refl _) rfl (pa_cons (de_def F1 hr (by decide) rfl (da_cons (dv 0) da_nil)) (pa_cons (de_tupR rfl rfl m2 rfl m3 (de_ix id_ix (dv 0) de_int)) (pa_cons pe_mnew pa_nil))))) (blkOk_by (N := nAllRests) (sc := defScope sAllRests) (by decide +kernel)) (fun _ _ _ _ _ => pg_name (i := 1) sc_all_rests.nd rfl (.inl rfl)) (fun _ _ _ _ _ => dts_nil)
    (fun _ _ _ _ _ => de_def F3 hr (by decide) rfl (da_cons (de_ix id_ix (dv 0) de_int) (da_cons (dv 1) da_nil)))) pa_nil))), ?_⟩
  have sd0 : SD K H (L2.start nAllRests [v0]) [some (dHouse n ds), none] := sd_cons h0 (sd_skip sd_nil)
  have n1 := ok.n1
  have hb : RowsB n (nearF n ds) := nearB ok.lt' ok.lim
  refine ⟨_, _, sd0, ⟨_, ⟨_, _, rfl, rfl, rfl⟩, ⟨n, ds, rfl, ok, rfl⟩⟩, fun v1 H1 e1 hv1 => ⟨_, _, sd0.ex e1, ⟨n, ⟨_, _, rfl, rfl, ⟨_, 0, .inr rfl, rfl, rfl⟩⟩, by omega, rfl⟩, fun v2 H2 e2 hv2 p hp hsys => ?_⟩⟩
  have e02 : Ex H H2 := e1.trans e2
  have hpH : H p = none := Evl.fresh_back e02 hp
  refine ⟨H2, p, v1, v2, n, nearF n ds, List.range n, rfl, ⟨Evl.Ex.new hp, hp, dp_ex e2 hv1, dp_ex (Evl.Ex.new hp) hv2, hb, by omega, List.Sublist.refl _, by rw [List.length_range]; exact n6, memo_new hsys upd_same⟩, fun v G' H4 eB eG nG gd memo hv4 => ?_⟩
  obtain ⟨a, ys, rfl, hsq, hdy⟩ := hv4
  rw [List.length_range] at hdy
  have eH4 : Ex H H4 := fun b o hbo => eB _ _ (ne_of_none hbo hpH) (by rw [upd_ne (ne_of_none hbo hpH)]; exact e02 _ _ hbo)
  have hsq4 : SqL K H4 a ys := Evl.ex_l eG hsq
  have hyl : ys.length = (layersF (nearF n ds) n (List.range n)).length := by rw [dps_len hdy, List.length_map]
  have hLB : (layersF (nearF n ds) n (List.range n)).length ≤ sizeLine := Nat.le_trans (layersF_len _ n _ (by rw [List.length_range]; exact Nat.le_refl _)) (layB8 n6)
  have L : Lc (α := List (List Nat)) [some (dHouse n ds), none] 1 tYesD (fCall gStateOf (fCons (f2 gIx (fV 0) (fC (.int 0))) (fCons (fV 1) fNil))) (layersF (nearF n ds) n (List.range n)) dLay (fun _ => true) (fun l => dL (stateF n l)) :=
    ⟨hLB, fun _ _ => rfl, fun l hl _ => ⟨noL_dL _, ⟨_, ⟨_, _, ⟨_, _, rfl, rfl, ⟨_, 0, .inr rfl, rfl, rfl⟩⟩, ⟨_, _, rfl, rfl, rfl⟩, rfl⟩, ⟨n, l, rfl, by omega, fun s hs r hr' => sub_lt (layersF_in _ n _ l hl s hs) r hr', rfl⟩⟩⟩⟩
  refine ⟨a, rfl, ⟨ys, hsq4⟩, fun D2 hD2 => lc_list (xs := ys) (fun k H' => LcPv K H4 D2 (lcOut ((layersF (nearF n ds) n (List.range n)).take k) (fun _ => true) fun l => dL (stateF n l)) H') (lc_zero hD2) (fun k H' _ hp => Evl.ex_l hp.1 hsq4) (fun k y H' hy hpk => ?_) (fun H7 hp7 => ?_)⟩
  · obtain ⟨dy, hdy', hpy⟩ := dps_get' hdy hy
    rw [List.getElem?_map] at hdy'
    obtain ⟨l, hl, rfl⟩ := Option.map_eq_some_iff.mp hdy'
    exact lc_step L (sd0.ex eH4) (Evl.Ex.refl H4) (by show 1 < 2; decide) hD2 hl hpy hpk
  · obtain ⟨e7, acc2, hacc2, hd2⟩ := hp7
    rw [hyl, List.take_length, lcOut_all] at hd2
    have hmm : (layersF (nearF n ds) n (List.range n)).map (fun l => dL (stateF n l)) = ((layersF (nearF n ds) n (List.range n)).map (stateF n)).map dL := by
      rw [List.map_map]
      rfl
    rw [hmm] at hd2
    obtain ⟨a1, a2, a3, a4, a5⟩ := gSortL_dL ((layersF (nearF n ds) n (List.range n)).map (stateF n)) (by rw [List.length_map]; exact hLB) (fun t ht => by
      obtain ⟨l, _, rfl⟩ := List.mem_map.mp ht
      intro e
      have := stateF_len n l
      rw [e] at this
      simp at this
      omega)
    refine ⟨_, dps_one (dp_lst_at hacc2 hd2), a1, a2, a3, a4, fun p9 acc9 hp9 hda9 => ?_⟩
    refine q p9 acc9 _ (Evl.fresh_back (eH4.trans e7) hp9) ((eH4.trans e7).trans (Evl.Ex.new hp9)) upd_same ?_
    rw [← a5] at hda9
    exact hda9

abbrev sRests : Stmt := topS 27
theorem sc_rests : FnScope ["house"] ["house"] (defScope sRests) := ⟨rfl, rfl, rfl, by decide +kernel, rfl, by decide +kernel, by decide +kernel⟩
theorem ok_rests (D : DefAt K mg "rests" sRests ["house"]) (F1 : Has P w K mg base 4 "need_house" ["house"] (spD K gNeedHouse)) (F2 : Has P w K mg base 10 "all_rests" ["house"] (spL K gAllRests)) : Has P w K mg base 11 "rests" ["house"] (spL K gAllRests) := by
  refine has_of D sc_rests (lenL fun ds d ⟨i, a, e, _⟩ => by rw [e]; rfl) fun f cdv A outer s H vs Q E hr h => ?_
  obtain ⟨as, es, hv, ⟨n, ds, rfl, ok, n6, rfl⟩, q⟩ := h
  obtain ⟨v0, rfl, h0⟩ := dps1 hv
  refine ⟨_, pss_cons (ps_expr (de_def F1 hr (by decide) rfl (da_cons (dv 0) da_nil))) (pss_one (ps_ret (dl_def F2 hr (by decide) rfl (da_cons (dv 0) da_nil)))), ?_⟩
  have sd0 : SD K H [some v0] [some (dHouse n ds)] := sd_cons h0 sd_nil
  refine drop_D sd0 ⟨_, ⟨_, _, rfl, rfl, rfl⟩, ⟨n, ds, rfl, ok, rfl⟩⟩ fun v H1 e1 _ => ?_
  exact retL_D (sd0.ex e1) ⟨_, ⟨_, _, rfl, rfl, rfl⟩, ⟨n, ds, rfl, ok, n6, rfl⟩⟩ fun p acc H2 hp e2 h3 h4 => q p acc H2 (Evl.fresh_back e1 hp) (e1.trans e2) h3 h4
end
end Mx
/-! P6: below_in -/
namespace Mx
open PySem PySem.Spec PyProof.Rows L2
/-- all but the list at p is kept -/
theorem extB {K : PySem.W.Frag} {H H' : Hp} {p : Addr} {xs : List V} (hp : H p = some (.lst xs)) (e : ExB p H H') : ExT K H H' := fun b ys q => by
  have ne : ∀ o, H b = some o → (∀ z, o ≠ .lst z) → b ≠ p := fun o ho hn eb => by
    rw [eb, hp] at ho
    cases ho
    exact hn xs rfl
  rcases q with (q | ⟨o, q⟩) | q
  · exact .inl (.inl (e _ _ (ne _ q fun z h => nomatch h) q))
  · exact .inl (.inr ⟨o, e _ _ (ne _ q fun z h => nomatch h) q⟩)
  · exact .inr q
theorem dps4 {K : PySem.W.Frag} {H : Hp} {vs : List V} {d e f g : PyData} (h : DpAll K H vs [d, e, f, g]) : ∃ v u w x, vs = [v, u, w, x] ∧ Dp K H v d ∧ Dp K H u e ∧ Dp K H w f ∧ Dp K H x g := by
  obtain ⟨v, r, rfl, h1, h2⟩ := dps_cons h
  obtain ⟨u, w, x, rfl, h3, h4, h5⟩ := dps3 h2
  exact ⟨v, u, w, x, rfl, h1, h3, h4, h5⟩
/-- the dicts of some rows of sets -/
def DKs (H : Hp) (lvl : Nat) (acc : List V) (ls : List (List (List Nat))) : Prop := acc.length = ls.length ∧ ∀ (i : Nat) (v : V) (l : List (List Nat)), acc[i]? = some v → ls[i]? = some l → ∃ a, v = V.ref a ∧ H a = some (.dK (kvF lvl l))
theorem DKs.nil {H : Hp} {lvl : Nat} : DKs H lvl [] [] := ⟨rfl, fun i v l h => by simp at h⟩
theorem DKs.snoc {H : Hp} {lvl : Nat} {acc : List V} {ls : List (List (List Nat))} {l : List (List Nat)} {a : Addr} (h : DKs H lvl acc ls) (ha : H a = some (.dK (kvF lvl l))) : DKs H lvl (acc ++ [V.ref a]) (ls ++ [l]) := by
  refine ⟨by simp [h.1], fun i v m h1 h2 => ?_⟩
  by_cases hi : i < acc.length
  · rw [List.getElem?_append_left hi] at h1
    rw [List.getElem?_append_left (by rw [← h.1]; exact hi)] at h2
    exact h.2 i v m h1 h2
  · have hi2 : i = acc.length := by
      have := (List.getElem?_eq_some_iff.mp h1).1
      simp at this
      omega
    subst hi2
    rw [List.getElem?_append_right (by omega)] at h1
    rw [h.1, List.getElem?_append_right (by omega)] at h2
    simp at h1 h2
    subst h1 h2
    exact ⟨a, rfl, ha⟩
theorem DKs.ex {H H' : Hp} {lvl : Nat} {acc : List V} {ls : List (List (List Nat))} (h : DKs H lvl acc ls) (e : Ex H H') : DKs H' lvl acc ls := ⟨h.1, fun i v l h1 h2 => let ⟨a, e1, e2⟩ := h.2 i v l h1 h2; ⟨a, e1, e _ _ e2⟩⟩
theorem DKs.exb {H H' : Hp} {lvl : Nat} {acc : List V} {ls : List (List (List Nat))} {p : Addr} {xs : List V} (h : DKs H lvl acc ls) (hp : H p = some (.lst xs)) (e : ExB p H H') : DKs H' lvl acc ls := ⟨h.1, fun i v l h1 h2 => let ⟨a, e1, e2⟩ := h.2 i v l h1 h2; ⟨a, e1, e _ _ (fun z => by rw [z, hp] at e2; cases e2) e2⟩⟩
section
variable {P : Program} {w : World} {K : PySem.W.Frag} {mg : Str → Option Value} {base : Heap}
abbrev sBelowIn : Stmt := topS 29
abbrev nBelowIn : List Str := ["rows", "rooms", "state", "level", "must", "found", "some", "left", "more", "room"]
theorem sc_below_in : FnScope nBelowIn ["rows", "rooms", "state", "level"] (defScope sBelowIn) := ⟨rfl, rfl, rfl, by decide +kernel, rfl, by decide +kernel, by decide +kernel⟩
structure BelIn (m n : Nat) (rows : List (List Nat)) (rooms st : List Nat) : Prop where
  b : RowsB n rows
  n8 : n ≤ 8
  sub : rooms.Sublist (List.range n)
  le : rooms.length ≤ m
  st : st.length = n
def spBelow (K : PySem.W.Frag) (m : Nat) : Sp := fun vs H Q _ => ∃ (n : Nat) (rows : List (List Nat)) (rooms st : List Nat) (lvl : Nat), DpAll K H vs [dRows rows, dL rooms, dL st, dN lvl] ∧ BelIn m n rows rooms st ∧
  ∀ p acc H', H p = none → Ex H H' → H' p = some (.lst acc) → DKs H' lvl acc (belowF rows st m rooms lvl) → Q (.ref p) H'
theorem gGe_nat (a b : Nat) : gIB (fun i j => decide (j ≤ i)) (dN a) (dN b) (.bool (decide (b ≤ a))) := ⟨_, _, rfl, rfl, by
  dsimp only
  by_cases h : b ≤ a
  · rw [decide_eq_true h, decide_eq_true (by omega)]
  · rw [decide_eq_false h, decide_eq_false (by omega)]⟩
theorem gEq_nat (a b : Nat) : gEq (dN a) (dN b) (.bool (decide (a = b))) := by
  have := gEq_int (a : Int) (b : Int)
  by_cases h : a = b
  · subst h
    simpa using this
  · have h' : ¬ ((a : Int) = (b : Int)) := by omega
    rw [decide_eq_false h'] at this
    rw [decide_eq_false h]
    exact this
theorem ok_below_in (D : DefAt K mg "below_in" sBelowIn ["rows", "rooms", "state", "level"]) (m1 : mg "tuple" = none) (m2 : mg "all" = none) (F1 : Has P w K mg base 2 "largest_in" ["rows", "rooms"] (spL K gLargestIn)) : ∀ m, m ≤ 6 → Has P w K mg base (3 + m) "below_in" ["rows", "rooms", "state", "level"] (spBelow K m) := by
  have len4 : ∀ m vs H Q E, spBelow K m vs H Q E → vs.length = 4 := fun m vs H Q E ⟨_, _, _, _, _, h, _⟩ => dps_len h
  have first : ∀ {H H1 : Hp} {Q : VK} {lvl : Nat} {σ : L2.St} {D : Ends}, Ex H H1 → (∀ v H', D.rt v H' = Q v H') → (∀ p acc H', H p = none → Ex H H' → H' p = some (.lst acc) → DKs H' lvl acc [[]] → Q (.ref p) H') → tRet (tLst (tCons tDNewK tNil)) D σ H1 := fun {H H1 Q lvl σ D} e1 hD q => by
    intro p hp
    refine ⟨(by show 1 ≤ sizeLine; decide), fun p2 hp2 => ?_⟩
    rw [hD]
    refine q p2 [.ref p] _ (Evl.fresh_back (e1.trans (Evl.Ex.new hp)) hp2) ((e1.trans (Evl.Ex.new hp)).trans (Evl.Ex.new hp2)) upd_same ?_
    refine DKs.snoc (ls := []) DKs.nil ?_
    rw [upd_ne (ne_of_none upd_same hp2), upd_same]
    rfl
  intro m
  induction m with
  | zero =>
    intro _
    refine has_of D sc_below_in (len4 0) fun f cdv A outer s H vs Q E hr h => ?_
    obtain ⟨n, rows, rooms, st, lvl, hv, hin, q⟩ := h
    obtain ⟨v0, v1, v2, v3, rfl, h0, h1, h2, h3⟩ := dps4 hv
    obtain rfl : rooms = [] := List.length_eq_zero_iff.mp (Nat.le_zero.mp hin.le)
    refine ⟨_, pss_cons (ps_if (dt_cmp (od_eq hr.units) (dv 1) (de_tup da_nil) (nomark _)) (pss_one (ps_ret (pe_lst (pa_cons pe_dnewK pa_nil)))) pss_nil) pss_never, ?_⟩
    exact if_D true (sd_skip (sd_cons h1 sd_nil)) ⟨_, _, rfl, ⟨[], rfl, Nat.zero_le _, rfl⟩, gEq_dL [] []⟩ (fun _ H1 e1 => first (Q := Q) (lvl := lvl) e1 (fun _ _ => rfl) q) (fun h => nomatch h)
  | succ m ih =>
    intro hm
    have ih := ih (by omega)
    refine has_of D sc_below_in (len4 (m + 1)) fun f cdv A outer s H vs Q E hr h => ?_
    obtain ⟨n, rows, rooms, st, lvl, hv, hin, q⟩ := h
    refine ⟨_, pss_cons (ps_if (dt_cmp (od_eq hr.units) (dv 1) (de_tup da_nil) (nomark _)) (pss_one (ps_ret (pe_lst (pa_cons pe_dnewK pa_nil)))) pss_nil)
      (pss_cons (ds_lcT (x := "room") (j := 9) (i := 4) rfl sc_below_in.nd rfl rfl rfl rfl (dv 1) (blkOk_by (N := nBelowIn) (sc := defScope sBelowIn) (by decide +kernel)) (fun _ _ _ _ _ => pg_name (i := 9) sc_below_in.nd rfl (.inl rfl))
          (fun _ _ _ _ _ => dts_one (dt_cmp (od_eq hr.units) (de_ix id_ix (dv 2) (dv 9)) (dv 3) (nomark _))) (fun _ _ _ _ _ => dv 9))
      (pss_cons (ps_set (i := 5) sc_below_in.nd rfl (.inl rfl) (pe_lst pa_nil))
      (pss_cons (ps_for PassesOwn.never rfl (pi_list (dl_def F1 hr (show 2 ≤ 3 + m by omega) rfl (da_cons (dv 0) (da_cons (dv 1) da_nil)))) (pg_name (i := 6) sc_below_in.nd rfl (.inr rfl))
        (pss_one (ps_if (PW.pt (dw_and (dt_val (de_bi (cd_all rfl) rfl m2 bb_all (da_cons (de_lc (x := "room") (j := 9) rfl sc_below_in.nd rfl (dv 4) (blkOk_by (N := nBelowIn) (sc := defScope sBelowIn) (by decide +kernel)) (fun _ _ _ _ _ => pg_name (i := 9) sc_below_in.nd rfl (.inl rfl)) (fun _ _ _ _ _ => dts_nil)
              (fun _ _ _ _ _ => de_cmp od_in (dv 9) (dv 6) rfl)) da_nil)))
            (dw_and1 (dt_val (de_bi (cd_all rfl) rfl m2 bb_all (da_cons (de_lcT (x := "room") (j := 9) rfl sc_below_in.nd rfl (dv 6) (blkOk_by (N := nBelowIn) (sc := defScope sBelowIn) (by decide +kernel)) (fun _ _ _ _ _ => pg_name (i := 9) sc_below_in.nd rfl (.inl rfl)) (fun _ _ _ _ _ => dts_nil)
              (fun _ _ _ _ _ => de_cmp od_ge (de_ix id_ix (dv 2) (dv 9)) (dv 3) rfl)) da_nil))))))
          (pss_cons (ps_set (i := 7) sc_below_in.nd rfl (.inl rfl) (de_ty cd_tuple rfl m1 bt_tuple (da_cons (de_lcT (x := "room") (j := 9) rfl sc_below_in.nd rfl (dv 1) (blkOk_by (N := nBelowIn) (sc := defScope sBelowIn) (by decide +kernel)) (fun _ _ _ _ _ => pg_name (i := 9) sc_below_in.nd rfl (.inl rfl))
            (fun _ _ _ _ _ => dts_one (dt_cmp od_notIn (dv 9) (dv 6) rfl)) (fun _ _ _ _ _ => dv 9)) da_nil)))
          (pss_one (ps_for PassesOwn.never rfl (pi_list (pe_def ih hr (Nat.le_refl _) rfl (da_cons (dv 0) (da_cons (dv 7) (da_cons (dv 2) (da_cons (de_op od_add (dv 3) de_int) da_nil)))))) (pg_name (i := 8) sc_below_in.nd rfl (.inl rfl))
            (pss_one (ps_expr (pe_bm PySem.F.plainAttrs_list PySem.F.slot_list_append PySem.F.type_list_append mt_append (pv 5) (pa_cons (pe_dm (pe_dc (own := [("room", 9)]) (g := gName 9) (tt := tDT K tYesD) rfl sc_below_in.nd (pi_tup (dv 6)) (blkOk_by (N := nBelowIn) (sc := defScope sBelowIn) (by decide +kernel)) (fun _ _ _ _ _ => pg_name (i := 9) sc_below_in.nd rfl (.inl rfl)) (fun _ _ _ _ _ => dts_nil)
              (fun _ _ _ _ _ => pv 9) (fun _ _ _ _ _ => pv 3)) (pv 8)) pa_nil)))))))
          pss_nil)))
      (pss_one (ps_ret (pv 5)))))), ?_⟩
    obtain ⟨v0, v1, v2, v3, rfl, h0, h1, h2, h3⟩ := dps4 hv
    have hlt := sub_lt hin.sub
    have hrl : rooms.length ≤ 8 := Nat.le_trans hin.sub.length_le (by rw [List.length_range]; exact hin.n8)
    by_cases hr0 : rooms = []
    · subst hr0
      exact if_D true (sd_skip (sd_cons h1 sd_nil)) ⟨_, _, rfl, ⟨[], rfl, Nat.zero_le _, rfl⟩, gEq_dL [] []⟩ (fun _ H1 e1 => first (Q := Q) (lvl := lvl) e1 (fun _ _ => rfl) q) (fun h => nomatch h)
    refine if_D false (sd_skip (sd_cons h1 sd_nil)) ⟨_, _, rfl, ⟨[], rfl, Nat.zero_le _, rfl⟩, by have := gEq_dL rooms []; rw [decide_eq_false hr0] at this; exact this⟩ (fun h => nomatch h) (fun _ H1 e1 => ?_)
    have hsn : ∀ r ∈ rooms, r < st.length := fun r hr => by rw [hin.st]; exact hlt r hr
    -- must
    refine asg_D (sd_cons (dp_ex e1 h0) (sd_cons (dp_ex e1 h1) (sd_cons (dp_ex e1 h2) (sd_cons (dp_ex e1 h3) (sd_skip (sd_skip (sd_skip (sd_skip (sd_skip (sd_skip sd_nil)))))))))) ⟨_, ⟨Nat, rooms, dN, fun r => decide (st.getD r 0 = lvl), dN, rfl, ⟨sz_le (by omega), fun r hr => ⟨_, _, ⟨_, _, rfl, rfl, gIx_T (hsn r hr)⟩, rfl, gEq_nat _ _⟩, fun r _ _ => ⟨rfl, rfl⟩⟩, rfl⟩, rfl⟩ fun vm Hm em hvm => ?_
    generalize hmu : (rooms.filter fun r => decide (st.getD r 0 = lvl)) = must at hvm
    have hvm : Dp K Hm vm (.list (must.map dN)) := by rw [← hmu]; exact hvm
    have hml : must.length ≤ 8 := by rw [← hmu]; exact Nat.le_trans (List.length_filter_le _ _) hrl
    have e0m : Ex H Hm := e1.trans em
    have sdm : SD K Hm [some v0, some v1, some v2, some v3, some vm] [some (dRows rows), some (dL rooms), some (dL st), some (dN lvl), some (.list (must.map dN))] :=
      sd_cons (dp_ex e0m h0) (sd_cons (dp_ex e0m h1) (sd_cons (dp_ex e0m h2) (sd_cons (dp_ex e0m h3) (sd_cons hvm sd_nil))))
    -- found = []
    refine ⟨Nat.zero_le _, fun p hp => ?_⟩
    have e3 : Ex Hm (upd Hm p (.lst [])) := Evl.Ex.new hp
    have hHp : (upd Hm p (.lst [])) p = some (.lst []) := upd_same
    generalize upd Hm p (.lst []) = H3 at e3 hHp ⊢
    refine ⟨_, _, (sd_cons (dp_ex (e0m.trans e3) h0) (sd_cons (dp_ex (e0m.trans e3) h1) sd_nil) : SD K H3 _ [some (dRows rows), some (dL rooms)]), ⟨_, ⟨_, _, rfl, ⟨_, _, rfl, rfl, rfl⟩, rfl⟩, ⟨n, rows, rooms, rfl, hin.b, hlt, hr0, hrl, rfl⟩⟩, fun qa acc H4 hqa e4 hacc hda => ⟨qa, rfl, ⟨acc, .inl (.inl hacc)⟩, ?_⟩⟩
    have hqp : qa ≠ p := (ne_of_none hHp hqa).symm
    have hp4 : H4 p = some (.lst []) := e4 _ _ hHp
    have hlen : acc.length = (largestF rows rooms).length := by rw [dps_len hda, List.length_map]
    have em4 : Ex Hm H4 := e3.trans e4
    have keepM : ∀ {H'}, ExB p H4 H' → Ex Hm H' := fun {H'} eb b o hb => eb _ _ (ne_of_none hb hp) (em4 _ _ hb)
    let outL : Nat → List (List (List Nat)) := fun i => (((largestF rows rooms).take i).filter (okB st rooms lvl)).flatMap fun s => (belowF rows st m (leftF rooms s) (lvl + 1)).map fun l => s :: l
    have hout : ∀ i, (outL i).length ≤ 2 ^ 21 := fun i => by
      refine Nat.le_trans (flat_le _ (layB m) _ fun s hs => ?_) (Nat.le_trans ?_ (Nat.le_trans (layB_mono hm) (by decide)))
      · rw [List.length_map]
        exact belowF_len rows st m _ _ (by have := leftF_len hr0 (List.mem_of_mem_take (List.mem_filter.mp hs).1); have := hin.le; omega)
      · show _ ≤ 2 ^ (m + 1) * layB m
        refine Nat.mul_le_mul_right _ (Nat.le_trans (List.length_filter_le _ _) (Nat.le_trans (by rw [List.length_take]; exact Nat.min_le_right _ _) (Nat.le_trans (largestF_le rows rooms) (Nat.pow_le_pow_right (by decide) hin.le))))
    refine for_list (xs := acc) (fun i σ' H' => ∃ y6 y7 y8 ac, σ' = [some v0, some v1, some v2, some v3, some vm, some (.ref p), y6, y7, y8, none] ∧ ExB p H4 H' ∧ H' p = some (.lst ac) ∧ DKs H' lvl ac (outL i))
      ⟨none, none, none, [], rfl, ExB.refl, hp4, DKs.nil⟩ (fun i σ' H' _ ⟨_, _, _, _, _, eb, _, _⟩ => .inl (.inl (eb _ _ hqp hacc))) (fun i x σ' H' hx hpv => ?_) (fun σ' H' hpv => ?_)
    · obtain ⟨y6, y7, y8, ac, rfl, eb, hac, hdk⟩ := hpv
      have hi : i < (largestF rows rooms).length := by rw [← hlen]; exact (List.getElem?_eq_some_iff.mp hx).1
      obtain ⟨dx, hdx, hpx⟩ := dps_get' hda hx
      have hsi : (largestF rows rooms)[i]? = some (largestF rows rooms)[i] := List.getElem?_eq_getElem hi
      rw [List.getElem?_map, hsi] at hdx
      cases hdx
      have hmem : (largestF rows rooms)[i] ∈ largestF rows rooms := List.getElem_mem hi
      generalize (largestF rows rooms)[i] = sm at hsi hpx hmem
      have hsub := largestF_sub hmem
      have hsl : sm.length ≤ 8 := Nat.le_trans hsub.length_le hrl
      have hx1 : Dp K H' x (dL sm) := dp_td (extB hp4 eb) _ _ (noL_dL sm) hpx
      have hll := leftF_len hr0 hmem
      have hM := keepM eb
      have sd7 : SD K H' [some v0, some v1, some v2, some v3, some vm, some (.ref p), some x, y7, y8, none] [some (dRows rows), some (dL rooms), some (dL st), some (dN lvl), some (.list (must.map dN)), none, some (dL sm), none, none, none] :=
        sd_cons (dp_ex (e0m.trans hM) h0) (sd_cons (dp_ex (e0m.trans hM) h1) (sd_cons (dp_ex (e0m.trans hM) h2) (sd_cons (dp_ex (e0m.trans hM) h3) (sd_cons (dp_ex hM hvm) (sd_skip (sd_cons hx1 (sd_skip (sd_skip (sd_skip sd_nil)))))))))
      have hstep : outL (i + 1) = if okB st rooms lvl sm = true then outL i ++ (belowF rows st m (leftF rooms sm) (lvl + 1)).map (fun l => sm :: l) else outL i := by
        show (((largestF rows rooms).take (i + 1)).filter _).flatMap _ = _
        rw [List.take_add_one, hsi, List.filter_append, List.flatMap_append]
        by_cases ho : okB st rooms lvl sm = true
        · rw [if_pos ho]
          simp [ho, outL]
        · rw [if_neg ho]
          simp [ho, outL]
      refine if_D (okB st rooms lvl sm) sd7 ?_ (fun hok H5 e5 => ?_) (fun hok H5 e5 => ?_)
      · refine fAnd_mk ⟨_, ⟨_, _, ⟨_, ⟨Nat, must, dN, fun _ => true, fun r => .bool (decide (r ∈ sm)), rfl, ⟨sz_le (by omega), fun _ _ => rfl, fun r _ _ => ⟨rfl, ⟨_, _, rfl, rfl, gInN r sm⟩⟩⟩, rfl⟩, rfl⟩, rfl, rfl⟩, ?_⟩ (fun _ => ⟨_, ⟨_, _, ⟨_, ⟨Nat, sm, dN, fun _ => true, fun r => .bool (decide (lvl ≤ st.getD r 0)), rfl, ⟨sz_le (by omega), fun _ _ => rfl, fun r hr' _ => ⟨rfl, ⟨_, _, ⟨_, _, rfl, rfl, gIx_T (hsn r (hsub.subset hr'))⟩, rfl, gGe_nat _ _⟩⟩⟩, rfl⟩, rfl⟩, rfl, rfl⟩, ?_⟩)
        · rw [hmu]
          exact gAll_map _ _
        · exact gAll_map _ _
      · have eb5 : ExB p H4 H5 := eb.trans (ExB.of e5)
        -- left = ..
        refine asg_D (sd7.ex e5) ⟨_, ⟨_, _, ⟨_, ⟨Nat, rooms, dN, fun r => !decide (r ∈ sm), dN, rfl, ⟨sz_le (by omega), fun r _ => ⟨_, _, rfl, rfl, gNotInN r sm⟩, fun r _ _ => ⟨rfl, rfl⟩⟩, rfl⟩, rfl⟩, rfl, rfl⟩, ⟨_, rfl, rfl⟩⟩ fun vr H6 e6 hvr => ?_
        have hvr : Dp K H6 vr (dL (leftF rooms sm)) := hvr
        have eb6 : ExB p H4 H6 := eb5.trans (ExB.of e6)
        have hM6 := keepM eb6
        have hx6 : Dp K H6 x (dL sm) := dp_ex (e5.trans e6) hx1
        have sd8 : SD K H6 [some v0, some v1, some v2, some v3, some vm, some (.ref p), some x, some vr, y8, none] [some (dRows rows), some (dL rooms), some (dL st), some (dN lvl), some (.list (must.map dN)), none, some (dL sm), some (dL (leftF rooms sm)), none, none] :=
          sd_cons (dp_ex (e0m.trans hM6) h0) (sd_cons (dp_ex (e0m.trans hM6) h1) (sd_cons (dp_ex (e0m.trans hM6) h2) (sd_cons (dp_ex (e0m.trans hM6) h3) (sd_cons (dp_ex hM6 hvm) (sd_skip (sd_cons hx6 (sd_cons hvr (sd_skip (sd_skip sd_nil)))))))))
        refine ⟨_, _, sd8, ⟨_, _, rfl, ⟨_, _, rfl, ⟨_, _, rfl, ⟨_, _, ⟨_, _, rfl, rfl, ⟨_, _, rfl, rfl, rfl⟩⟩, rfl, rfl⟩, rfl⟩, rfl⟩, rfl⟩, fun vs7 H7 e7 hvs7 => ⟨n, rows, leftF rooms sm, st, lvl + 1, ?_, ⟨hin.b, hin.n8, (leftF_sub rooms sm).trans hin.sub, by have := hin.le; omega, hin.st⟩, fun qb ys H8 hqb e8 hys hdy => ?_⟩⟩
        · exact hvs7
        have eb8 : ExB p H4 H8 := eb6.trans (ExB.of (e7.trans e8))
        have hp8 : H8 p = some (.lst ac) := (e7.trans e8) _ _ (e6 _ _ (e5 _ _ hac))
        have hqbp : qb ≠ p := by
          intro e
          subst e
          rw [e7 _ _ (e6 _ _ (e5 _ _ hac))] at hqb
          cases hqb
        have hdk8 : DKs H8 lvl ac (outL i) := hdk.ex ((e5.trans e6).trans (e7.trans e8))
        have hyl : ys.length = (belowF rows st m (leftF rooms sm) (lvl + 1)).length := hdy.1
        refine ⟨qb, rfl, ⟨ys, .inl (.inl hys)⟩, for_list (xs := ys) (fun j σ' H' => ∃ y8 ac, σ' = [some v0, some v1, some v2, some v3, some vm, some (.ref p), some x, some vr, y8, none] ∧ ExB p H8 H' ∧ H' p = some (.lst ac) ∧ DKs H' lvl ac (outL i ++ ((belowF rows st m (leftF rooms sm) (lvl + 1)).take j).map fun l => sm :: l))
          ⟨y8, ac, rfl, ExB.refl, hp8, by rw [List.take_zero, List.map_nil, List.append_nil]; exact hdk8⟩ (fun j σ' H' _ ⟨_, _, _, eb', _, _⟩ => .inl (.inl (eb' _ _ hqbp hys))) (fun j y σ' H' hy hpv2 => ?_) (fun σ' H' hpv2 => ?_)⟩
        · obtain ⟨y8', ac', rfl, eb', hac', hdk'⟩ := hpv2
          have hj : j < (belowF rows st m (leftF rooms sm) (lvl + 1)).length := by rw [← hyl]; exact (List.getElem?_eq_some_iff.mp hy).1
          have hsj : (belowF rows st m (leftF rooms sm) (lvl + 1))[j]? = some (belowF rows st m (leftF rooms sm) (lvl + 1))[j] := List.getElem?_eq_getElem hj
          obtain ⟨a2, ey, ha2⟩ := hdy.2 j y _ hy hsj
          subst ey
          have hlm : (belowF rows st m (leftF rooms sm) (lvl + 1))[j] ∈ belowF rows st m (leftF rooms sm) (lvl + 1) := List.getElem_mem hj
          generalize (belowF rows st m (leftF rooms sm) (lvl + 1))[j] = l at hsj ha2 hlm
          have hlay := belowF_lay rows st m _ _ l hlm
          have hll2 := layersF_long rows m _ l hlay
          have hk2 : (kvF (lvl + 1) l).length ≤ 1000 := by
            have := len_kvF (m := 8) (lvl + 1) l fun s hs => Nat.le_trans ((layersF_in rows m _ l hlay s hs).trans (leftF_sub rooms sm)).length_le hrl
            omega
          have ha2p : a2 ≠ p := fun e => by rw [e, hp8] at ha2; cases ha2
          have hx' : Dp K H' x (dL sm) := dp_td (extB hp8 eb') _ _ (noL_dL sm) (dp_ex (e7.trans e8) hx6)
          -- found.append({**{..}, **more})
          refine ⟨.ref p, rfl, .inl ⟨rfl, _, .inl (.inl hac')⟩, fun pd hpd => ?_⟩
          have e9 : Ex H' (upd H' pd (.dK [])) := Evl.Ex.new hpd
          have hpdp : pd ≠ p := (ne_of_none hac' hpd).symm
          have hpd9 : (upd H' pd (.dK [])) pd = some (.dK []) := upd_same
          generalize upd H' pd (.dK []) = H9 at e9 hpd9 ⊢
          refine ⟨_, _, (sd_skip (sd_skip (sd_skip (sd_skip (sd_skip (sd_skip (sd_cons (dp_ex e9 hx') sd_nil)))))) : SD K H9 _ [none, none, none, none, none, none, some (dL sm)]), rfl, fun v10 H10 e10 hv10 => ?_⟩
          obtain ⟨a3, zs, rfl, hsq3, hda3⟩ := dp_tuple hv10
          obtain rfl : zs = sm.map vN := nats_dps hda3
          have hv3 : v3 = .int (lvl : Int) := dp_int h3
          refine ⟨a3, rfl, ⟨_, hsq3⟩, fun D hD => dc_tup (xs := sm.map vN) (fun k H' => ExB D H10 H' ∧ H' D = some (.dK ((sm.take k).foldl (fun acc r => putK acc (rK r) (vN lvl)) []))) ⟨ExB.of (Evl.Ex.new hD), upd_same⟩ (fun k H' _ hk => ?_) (fun k r' H' hr' hk => ?_) (fun H11 hk => ?_)⟩
          · exact Evl.ex_t (fun b o hb => hk.1 _ _ (ne_of_none hb hD) hb) hsq3
          · obtain ⟨ek, hDk⟩ := hk
            rw [List.getElem?_map] at hr'
            obtain ⟨r, hr, rfl⟩ := Option.map_eq_some_iff.mp hr'
            refine ⟨wipe_one, [], true, sd_nil, rfl, fun H2 e2 => ?_⟩
            dsimp only
            rw [if_pos rfl]
            refine ⟨_, rfl, v3, rfl, _, rK r, rfl, e2 _ _ hDk, ?_, (ek.trans (ExB.of e2)).trans ExB.upd, ?_⟩
            · have := len_kvs1 lvl (sm.take k) []
              rw [List.length_nil, List.length_take] at this
              exact small1000 (by omega)
            · rw [upd_same, hv3, take_fold (fun acc r => putK acc (rK r) (vN lvl)) [] sm k r hr]
              rfl
          · obtain ⟨ek, hDk⟩ := hk
            rw [List.length_map, List.take_length] at hDk
            have ekk : Ex H10 H11 := fun b o hb => ek _ _ (ne_of_none hb hD) hb
            have hpd11 : H11 pd = some (.dK []) := ekk _ _ (e10 _ _ hpd9)
            have hDpd : D ≠ pd := (ne_of_none (e10 _ _ hpd9) hD).symm
            have ha2' : H' a2 = some (.dK (kvF (lvl + 1) l)) := eb' _ _ ha2p ha2
            have ha2pd : a2 ≠ pd := ne_of_none ha2' hpd
            have e911 : Ex H' H11 := (e9.trans e10).trans ekk
            have hk1 : (kvs1 lvl sm).length ≤ 1000 := by
              have := len_kvs1 lvl sm []
              rw [List.length_nil] at this
              show (sm.foldl _ []).length ≤ 1000
              omega
            have hp11 : H11 p = some (.lst ac') := e911 _ _ hac'
            have hal : ac'.length ≤ 2 ^ 21 := by
              have h9 := hdk'.1
              have h10 := hout (i + 1)
              rw [hstep, if_pos hok, List.length_append, List.length_map] at h10
              rw [List.length_append, List.length_map, List.length_take] at h9
              omega
            refine ⟨D, kvs1 lvl sm, rfl, hDpd, hpd11, hDk, hk1, _, rfl, a2, kvF (lvl + 1) l, rfl, ha2pd, upd_same, ?_, hk2, p, ac', .ref pd, rfl, rfl, ?_, ?_, some (.ref a2), _, rfl, ?_, upd_same, ?_⟩
            · rw [upd_ne ha2pd]
              exact e911 _ _ ha2'
            · rw [upd_ne hpdp.symm, upd_ne hpdp.symm]
              exact hp11
            · exact Nat.lt_of_le_of_lt hal (by decide)
            · intro b o hbp hb
              have hb' := eb' b o hbp hb
              have hbpd : b ≠ pd := ne_of_none hb' hpd
              rw [upd_ne hbp, upd_ne hbpd, upd_ne hbpd]
              exact e911 _ _ hb'
            · have hl2 : ((belowF rows st m (leftF rooms sm) (lvl + 1)).take (j + 1)) = ((belowF rows st m (leftF rooms sm) (lvl + 1)).take j) ++ [l] := by
                rw [List.take_add_one, hsj]
                rfl
              rw [hl2, List.map_append, ← List.append_assoc]
              refine DKs.snoc ⟨hdk'.1, fun i' v' l' h1' h2' => ?_⟩ ?_
              · obtain ⟨a', ea', ha'⟩ := hdk'.2 i' v' l' h1' h2'
                have hap : a' ≠ p := fun e => by rw [e, hac'] at ha'; cases ha'
                have hapd : a' ≠ pd := ne_of_none ha' hpd
                refine ⟨a', ea', ?_⟩
                rw [upd_ne hap, upd_ne hapd, upd_ne hapd]
                exact e911 _ _ ha'
              · rw [upd_ne hpdp, upd_same]
                rfl
        · obtain ⟨y8', ac', rfl, eb', hac', hdk'⟩ := hpv2
          refine ⟨some x, some vr, y8', ac', rfl, eb8.trans eb', hac', ?_⟩
          rw [hstep, if_pos hok]
          rw [hyl, List.take_length] at hdk'
          exact hdk'
      · refine ⟨some x, y7, y8, ac, rfl, eb.trans (ExB.of e5), e5 _ _ hac, ?_⟩
        rw [hstep, if_neg (by rw [hok]; exact Bool.false_ne_true)]
        exact hdk.ex e5
    · obtain ⟨y6, y7, y8, ac, rfl, eb, hac, hdk⟩ := hpv
      rw [hlen] at hdk
      refine ⟨.ref p, rfl, q p ac H' (Evl.fresh_back e0m hp) (e0m.trans (keepM eb)) hac ?_⟩
      have : outL (largestF rows rooms).length = belowF rows st (m + 1) rooms lvl := by
        show (((largestF rows rooms).take _).filter _).flatMap _ = _
        rw [List.take_length, belowF, if_neg hr0]
      rw [← this]
      exact hdk
end
end Mx
/-! P6b: rests_under, rests_below -/
namespace Mx
open PySem PySem.Spec PyProof.Rows L2
def underF (n : Nat) (ds : List (Nat × Nat)) (st : List Nat) : List (List Nat) := sortD dL ((belowF (nearF n ds) st n (List.range n) 0).map (stateF n))
/-- the state read out of the dict, room by room -/
theorem state_range (n : Nat) (l : List (List Nat)) : (List.range n).map (fun r => (stateF n l).getD r 0) = stateF n l := by
  apply List.ext_getElem?
  intro i
  rw [List.getElem?_map]
  by_cases h : i < n
  · rw [List.getElem?_range h]
    have hl := stateF_len n l
    rw [List.getElem?_eq_getElem (by omega : i < (stateF n l).length)]
    show some ((stateF n l).getD i 0) = _
    rw [List.getD_eq_getElem?_getD, List.getElem?_eq_getElem (by omega : i < (stateF n l).length)]
    rfl
  · rw [List.getElem?_eq_none (by simpa using h), List.getElem?_eq_none (by rw [stateF_len]; omega)]
    rfl
def rTupOf (K : PySem.W.Frag) : List V → Hp → VK → Prop := fun xs H Q => ∃ p ys, xs = [.ref p] ∧ ((SqL K H p ys ∧ ∀ l, H l = none → Q (.ref l) (upd H l (.tup ys))) ∨ (SqT K H p ys ∧ Q (.ref p) H))
theorem cr_tupOf {X : Cx} : CallR X (.type "tuple") (rTupOf X.K) := call_tuple_of
theorem units1 {u : Nat} (h : u + 64 < cLine) : u + 1 < cLine := by omega
section
variable {P : Program} {w : World} {K : PySem.W.Frag} {mg : Str → Option Value} {base : Heap}
abbrev sRestsUnder : Stmt := topS 30
abbrev nRestsUnder : List Str := ["house", "state", "found", "one", "room"]
theorem sc_rests_under : FnScope nRestsUnder ["house", "state"] (defScope sRestsUnder) := ⟨rfl, rfl, rfl, by decide +kernel, rfl, by decide +kernel, by decide +kernel⟩
def gRestsUnder : List PyData → List PyData → Prop := fun as es => ∃ (n : Nat) (ds : List (Nat × Nat)) (st : List Nat), as = [dHouse n ds, dL st] ∧ HouseOk n ds ∧ n ≤ 6 ∧ st.length = n ∧ es = (underF n ds st).map dL
theorem ok_rests_under (D : DefAt K mg "rests_under" sRestsUnder ["house", "state"]) (m1 : mg "sorted" = none) (m2 : mg "tuple" = none) (m3 : mg "range" = none) (F1 : Has P w K mg base 1 "near" ["house"] (spD K gNear)) (F2 : Has P w K mg base 9 "below_in" ["rows", "rooms", "state", "level"] (spBelow K 6)) :
    Has P w K mg base 10 "rests_under" ["house", "state"] (spL K gRestsUnder) := by
  refine has_of D sc_rests_under (lenL fun ds d ⟨i, a, b, e, _⟩ => by rw [e]; rfl) fun f cdv A outer s H vs Q E hr h => ?_
  obtain ⟨as, es, hv, ⟨n, ds, st, rfl, ok, n6, hst, rfl⟩, q⟩ := h
  obtain ⟨v0, v1, rfl, h0, h1⟩ := dps2 hv
  refine ⟨_, pss_cons (ps_set (i := 2) sc_rests_under.nd rfl (.inl rfl) (pe_def F2 hr (Nat.le_refl _) rfl (da_cons (de_def F1 hr (by decide) rfl (da_cons (dv 0) da_nil)) (da_cons (de_tupR rfl rfl m2 rfl m3 (de_ix id_ix (dv 0) de_int)) (da_cons (dv 1) (da_cons de_int da_nil))))))
    (pss_one (ps_ret (pe_callB (cr_sortedL hr.units) rfl m1 bb_sorted (pa_cons (pe_lc (own := [("one", 3)]) (g := gName 3) (tt := tDT K tYesD) (te := tCB (rTupOf K) (tCons (tLc (iRng1 (tDA K (fCons (f2 gIx (fV 0) (fC (.int 0))) fNil))) (gName 4) (tDT K tYesD) (tDGet (tVar 3) (tVar 4)) [4]) tNil)) rfl sc_rests_under.nd (pi_list (pv 2)) (blkOk_by (N := nRestsUnder) (sc := defScope sRestsUnder) (by decide +kernel)) (fun _ _ _ _ _ => pg_name (i := 3) sc_rests_under.nd rfl (.inr rfl)) (fun _ _ _ _ _ => dts_nil)
      (fun _ _ _ _ _ => pe_callTy cr_tupOf rfl m2 bt_tuple (pa_cons (pe_lc (own := [("room", 4)]) (g := gName 4) (tt := tDT K tYesD) rfl sc_rests_under.nd (pi_range1 rfl m3 (da_cons (de_ix id_ix (dv 0) de_int) da_nil)) (blkOk_by (N := nRestsUnder) (sc := relS _ (defScope sRestsUnder)) (by decide +kernel)) (fun _ _ _ _ _ => pg_name (i := 4) sc_rests_under.nd rfl (.inl rfl)) (fun _ _ _ _ _ => dts_nil)
        (fun _ _ _ _ _ => pe_dget (units1 hr.units) (pv 3) (pv 4) (fun _ _ => rfl))) pa_nil))) pa_nil)))), ?_⟩
  have sd0 : SD K H (L2.start nRestsUnder [v0, v1]) [some (dHouse n ds), some (dL st), none, none, none] := sd_cons h0 (sd_cons h1 (sd_skip (sd_skip (sd_skip sd_nil))))
  have n1 := ok.n1
  have hb : RowsB n (nearF n ds) := nearB ok.lt' ok.lim
  refine ⟨_, _, sd0, ⟨_, _, ⟨_, ⟨_, _, rfl, rfl, rfl⟩, ⟨n, ds, rfl, ok, rfl⟩⟩, ⟨_, _, ⟨n, ⟨_, _, rfl, rfl, ⟨_, 0, .inr rfl, rfl, rfl⟩⟩, by omega, rfl⟩, ⟨_, _, rfl, ⟨_, _, rfl, rfl, rfl⟩, rfl⟩, rfl⟩, rfl⟩, fun vs H1 e1 hvs => ⟨n, nearF n ds, List.range n, st, 0, hvs, ⟨hb, by omega, List.Sublist.refl _, by rw [List.length_range]; exact n6, hst⟩, fun p ys H2 hp e2 hys hdy => ?_⟩⟩
  have e02 : Ex H H2 := e1.trans e2
  have hany : belowF (nearF n ds) st 6 (List.range n) 0 = belowF (nearF n ds) st n (List.range n) 0 := belowF_any _ st (by rw [List.length_range]; exact n6) (by rw [List.length_range]; exact Nat.le_refl _)
  rw [hany] at hdy
  have hLB : (belowF (nearF n ds) st n (List.range n) 0).length ≤ sizeLine := Nat.le_trans (belowF_len _ st n _ _ (by rw [List.length_range]; exact Nat.le_refl _)) (layB8 n6)
  have hyl : ys.length = (belowF (nearF n ds) st n (List.range n) 0).length := hdy.1
  refine ⟨.ref p, rfl, p, rfl, ⟨ys, .inl (.inl hys)⟩, fun D2 hD2 => lc_list (xs := ys) (fun k H' => LcPv K H2 D2 (lcOut ((belowF (nearF n ds) st n (List.range n) 0).take k) (fun _ => true) fun l => dL (stateF n l)) H') (lc_zero hD2) (fun k H' _ hp => .inl (.inl (hp.1 _ _ hys))) (fun k y H' hy hpk => ?_) (fun H7 hp7 => ?_)⟩
  · have hk : k < (belowF (nearF n ds) st n (List.range n) 0).length := by rw [← hyl]; exact (List.getElem?_eq_some_iff.mp hy).1
    have hsk : (belowF (nearF n ds) st n (List.range n) 0)[k]? = some (belowF (nearF n ds) st n (List.range n) 0)[k] := List.getElem?_eq_getElem hk
    obtain ⟨a, ey, ha⟩ := hdy.2 k y _ hy hsk
    subst ey
    have hlm : (belowF (nearF n ds) st n (List.range n) 0)[k] ∈ belowF (nearF n ds) st n (List.range n) 0 := List.getElem_mem hk
    generalize (belowF (nearF n ds) st n (List.range n) 0)[k] = l at hsk ha hlm
    have hcov := layersF_cover (nearF n ds) n (List.range n) (by rw [List.length_range]; exact Nat.le_refl _) l (belowF_lay _ st n _ _ l hlm)
    obtain ⟨eH, acc, hacc, hdacc⟩ := hpk
    refine ⟨wipe_one, [], true, sd_nil, rfl, fun H3 e3 => ?_⟩
    dsimp only
    rw [if_pos rfl]
    have e23 : Ex H2 H3 := by exact eH.trans e3
    have sd3 : SD K H3 [some v0, some v1, some (.ref p), some (.ref a), none] [some (dHouse n ds), some (dL st), none, none, none] := sd_cons (dp_ex (e02.trans e23) h0) (sd_cons (dp_ex (e02.trans e23) h1) (sd_skip (sd_skip (sd_skip sd_nil))))
    refine ⟨_, _, sd3, ⟨_, _, ⟨_, _, rfl, rfl, ⟨_, 0, .inr rfl, rfl, rfl⟩⟩, rfl, rfl⟩, fun vs4 H4 e4 hvs4 => ?_⟩
    obtain ⟨vn, rfl, hvn⟩ := dps1 hvs4
    obtain rfl := dp_int hvn
    refine ⟨(n : Int), rfl, by omega, by omega, ?_⟩
    rw [Int.toNat_natCast]
    refine fun D5 hD5 => lc_range (lo := 0) (n := n) (fun i H' => Ex H4 H' ∧ H' D5 = some (.lst (((List.range i).map fun r => (stateF n l).getD r 0).map vN))) ⟨Evl.Ex.new hD5, upd_same⟩ (fun i H' hi hpi => ?_) fun H' hpi => ?_
    · obtain ⟨e5, hac5⟩ := hpi
      refine ⟨wipe_one, [], true, sd_nil, rfl, fun H6 e6 => ?_⟩
      dsimp only
      rw [if_pos rfl]
      obtain ⟨lv, hlv⟩ := lvlO_some 0 l i (hcov i (List.mem_range.mpr hi))
      have hval := (kok_F 0 l).val i lv hlv
      have ha6 : H6 a = some (.dK (kvF 0 l)) := e6 _ _ (e5 _ _ (e4 _ _ (e23 _ _ ha)))
      refine ⟨_, rfl, _, rfl, a, vN lv, rfl, ?_, _, e6 _ _ hac5, ?_, ?_, ?_⟩
      · have hg := DGet.k (k := rK i) ha6
        rw [hval] at hg
        have hz : kV (rK i) = V.int (0 + (i : Int)) := by
          show V.int (i : Int) = _
          rw [Int.zero_add]
        rw [hz] at hg
        exact hg
      · rw [List.length_map, List.length_map, List.length_range]
        exact small1000 (by omega)
      · intro b o hb
        rw [upd_ne (ne_of_none hb hD5)]
        exact e6 _ _ (e5 _ _ hb)
      · rw [upd_same, List.range_succ, List.map_append, List.map_append, List.map_singleton, List.map_singleton, stateF_get hi, hlv]
        rfl
    · obtain ⟨e5, hac5⟩ := hpi
      rw [state_range] at hac5
      refine ⟨D5, _, rfl, .inl ⟨.inl (.inl hac5), fun t ht => ?_⟩⟩
      have e8 : Ex H3 (upd H' t (.tup ((stateF n l).map vN))) := (e4.trans e5).trans (Evl.Ex.new ht)
      have hl1 : acc.length ≤ k := by
        rw [dps_len hdacc]
        refine Nat.le_trans lcOut_len ?_
        rw [List.length_take]
        omega
      refine ⟨acc, e8 _ _ (e3 _ _ hacc), by omega, ?_, acc ++ [.ref t], upd_same, ?_⟩
      · intro b o hb
        rw [upd_ne (ne_of_none hb hD2)]
        exact e8 _ _ (e23 _ _ hb)
      · rw [lcOut_yes hsk rfl]
        have hD2t : D2 ≠ t := ne_of_none (((e4.trans e5) _ _ (e3 _ _ hacc))) ht
        have hx8 : (upd H' t (.tup ((stateF n l).map vN))) D2 = some (.lst acc) := e8 _ _ (e3 _ _ hacc)
        refine dps_td (ext_upd hx8) _ _ ?_ (dps_app (dps_ex (e3.trans e8) hdacc) (dps_one (dp_tup_at upd_same (dps_nats _))))
        refine noLs_of fun d hd => ?_
        rcases List.mem_append.mp hd with hd | hd
        · obtain ⟨x, _, rfl⟩ := List.mem_map.mp hd
          exact noL_dL _
        · rw [List.mem_singleton] at hd
          rw [hd]
          exact noL_dL _
  · obtain ⟨e7, acc2, hacc2, hd2⟩ := hp7
    rw [hyl, List.take_length, lcOut_all] at hd2
    have hmm : (belowF (nearF n ds) st n (List.range n) 0).map (fun l => dL (stateF n l)) = ((belowF (nearF n ds) st n (List.range n) 0).map (stateF n)).map dL := by
      rw [List.map_map]
      rfl
    rw [hmm] at hd2
    obtain ⟨a1, a2, a3, a4, a5⟩ := gSortL_dL ((belowF (nearF n ds) st n (List.range n) 0).map (stateF n)) (by rw [List.length_map]; exact hLB) (fun t ht => by
      obtain ⟨l, _, rfl⟩ := List.mem_map.mp ht
      intro e
      have := stateF_len n l
      rw [e] at this
      simp at this
      omega)
    refine ⟨_, dps_one (dp_lst_at hacc2 hd2), a1, a2, a3, a4, fun p9 acc9 hp9 hda9 => ?_⟩
    refine q p9 acc9 _ (Evl.fresh_back (e02.trans e7) hp9) ((e02.trans e7).trans (Evl.Ex.new hp9)) upd_same ?_
    rw [← a5] at hda9
    exact hda9
abbrev sRestsBelow : Stmt := topS 31
theorem sc_rests_below : FnScope ["house", "state"] ["house", "state"] (defScope sRestsBelow) := ⟨rfl, rfl, rfl, by decide +kernel, rfl, by decide +kernel, by decide +kernel⟩
def gRestsBelow : List PyData → List PyData → Prop := fun as es => ∃ (n : Nat) (ds : List (Nat × Nat)) (st : List Nat), as = [dHouse n ds, dL st] ∧ HouseOk n ds ∧ n ≤ 6 ∧ StOk n st ∧ Parted ds st ∧ es = (underF n ds st).map dL
theorem ok_rests_below (D : DefAt K mg "rests_below" sRestsBelow ["house", "state"]) (F1 : Has P w K mg base 6 "need_parted" ["house", "state"] (spD K gNeedParted)) (F2 : Has P w K mg base 10 "rests_under" ["house", "state"] (spL K gRestsUnder)) : Has P w K mg base 11 "rests_below" ["house", "state"] (spL K gRestsBelow) := by
  refine has_of D sc_rests_below (lenL fun ds d ⟨i, a, b, e, _⟩ => by rw [e]; rfl) fun f cdv A outer s H vs Q E hr h => ?_
  obtain ⟨as, es, hv, ⟨n, ds, st, rfl, ok, n6, hst, hp, rfl⟩, q⟩ := h
  obtain ⟨v0, v1, rfl, h0, h1⟩ := dps2 hv
  refine ⟨_, pss_cons (ps_expr (de_def F1 hr (by decide) rfl (da_cons (dv 0) (da_cons (dv 1) da_nil)))) (pss_one (ps_ret (dl_def F2 hr (by decide) rfl (da_cons (dv 0) (da_cons (dv 1) da_nil))))), ?_⟩
  have sd0 : SD K H [some v0, some v1] [some (dHouse n ds), some (dL st)] := sd_cons h0 (sd_cons h1 sd_nil)
  refine drop_D sd0 ⟨_, ⟨_, _, rfl, ⟨_, _, rfl, rfl, rfl⟩, rfl⟩, ⟨n, ds, st, rfl, ok, hst, hp, rfl⟩⟩ fun v H1 e1 _ => ?_
  exact retL_D (sd0.ex e1) ⟨_, ⟨_, _, rfl, ⟨_, _, rfl, rfl, rfl⟩, rfl⟩, ⟨n, ds, st, rfl, ok, n6, hst.len, rfl⟩⟩ fun p acc H2 hp e2 h3 h4 => q p acc H2 (Evl.fresh_back e1 hp) (e1.trans e2) h3 h4
end
end Mx
/-! P7: need_costs, cost_in, cost_of -/
namespace Mx
open PySem PySem.Spec PyProof.Rows L2
structure CostsOk (n : Nat) (cs : List (List Nat)) : Prop where
  len : cs.length = n
  row : ∀ r ∈ cs, 1 ≤ r.length ∧ r.length ≤ 8
  le : ∀ r ∈ cs, ∀ c ∈ r, c ≤ 99
theorem CostsOk.at {n : Nat} {cs : List (List Nat)} (h : CostsOk n cs) {r : Nat} (hr : r < n) : 1 ≤ (cs.getD r []).length ∧ (cs.getD r []).length ≤ 8 := by
  have hl := h.len
  rw [List.getD_eq_getElem?_getD, List.getElem?_eq_getElem (by omega)]
  exact h.row _ (List.getElem_mem _)
def costF (cs : List (List Nat)) (st : List Nat) : Nat := ((cs.zip st).map fun p => cinF p.1 p.2).sum
theorem sum_cast {α : Type} (f : α → Nat) : ∀ l : List α, (l.map fun x => (f x : Int)).sum = ((l.map f).sum : Nat)
  | [] => rfl
  | x :: l => by
    rw [List.map_cons, List.map_cons, List.sum_cons, List.sum_cons, sum_cast f l, Int.natCast_add]
theorem gSum_map {α : Type} (f : α → Nat) (l : List α) : gSum [.list (lcOut l (fun _ => true) fun x => dN (f x))] (dN ((l.map f).sum)) := ⟨l.map fun x => (f x : Int), .inl (by rw [lcOut_all, List.map_map]; rfl), by rw [sum_cast]⟩
section
variable {P : Program} {w : World} {K : PySem.W.Frag} {mg : Str → Option Value} {base : Heap}
abbrev sNeedCosts : Stmt := topS 34
abbrev nNeedCosts : List Str := ["house", "costs", "index", "row", "cost"]
theorem sc_need_costs : FnScope nNeedCosts ["house", "costs"] (defScope sNeedCosts) := ⟨rfl, rfl, rfl, by decide +kernel, rfl, by decide +kernel, by decide +kernel⟩
def gNeedCosts : List PyData → PyData → Prop := fun as d => ∃ (n : Nat) (ds : List (Nat × Nat)) (cs : List (List Nat)), as = [dHouse n ds, dLay cs] ∧ CostsOk n cs ∧ n ≤ 8 ∧ d = .none
theorem ok_need_costs (D : DefAt K mg "need_costs" sNeedCosts ["house", "costs"]) (m1 : mg "enumerate" = none) (m2 : mg "all" = none) (m3 : ∃ t, mg "MOST_COST" = some (.int 99 t)) (F1 : Has P w K mg base 1 "is_list" ["value", "least", "most"] (spD K gIsList))
    (F2 : Has P w K mg base 2 "is_in" ["value", "least", "most"] (spD K gIsIn)) : Has P w K mg base 3 "need_costs" ["house", "costs"] (spD K gNeedCosts) := by
  obtain ⟨t8, m3⟩ := m3
  refine has_of D sc_need_costs (lenD fun ds d ⟨i, a, b, e, _⟩ => by rw [e]; rfl) fun f cdv A outer s H vs Q E hr h => ?_
  obtain ⟨as, d, hv, ⟨n, ds, cs, rfl, ok, n8, rfl⟩, q⟩ := h
  obtain ⟨v1, v2, rfl, h1, h2⟩ := dps2 hv
  refine ⟨_, pss_cons (ps_if (dt_not (dt_val (de_def F1 hr (by decide) rfl (da_cons (dv 1) (da_cons (de_ix id_ix (dv 0) de_int) (da_cons (de_ix id_ix (dv 0) de_int) da_nil)))))) (pss_one ps_never) pss_nil)
    (pss_one (ps_for PassesOwn.never rfl (pi_enumT rfl m1 (dv 1)) (pg_tup rfl (pgs_cons (pg_name (i := 2) sc_need_costs.nd rfl (.inl rfl)) (pgs_cons (pg_name (i := 3) sc_need_costs.nd rfl (.inl rfl)) pgs_nil)))
      (pss_one (ps_if (PW.pt (dw_or (dt_not (dt_val (de_def F1 hr (by decide) rfl (da_cons (dv 3) (da_cons de_int (da_cons de_int da_nil))))))
        (dw_or1 (dt_not (dt_val (de_bi (cd_all rfl) rfl m2 bb_all (da_cons (de_lcT (x := "cost") (j := 4) rfl sc_need_costs.nd rfl (dv 3) (blkOk_by (N := nNeedCosts) (sc := defScope sNeedCosts) (by decide +kernel)) (fun _ _ _ _ _ => pg_name (i := 4) sc_need_costs.nd rfl (.inl rfl)) (fun _ _ _ _ _ => dts_nil)
          (fun _ _ _ _ _ => de_def F2 hr (by decide) rfl (da_cons (dv 4) (da_cons de_int (da_cons (de_glob rfl m3 ⟨_, rfl⟩) da_nil))))) da_nil))))))) (pss_one ps_never) pss_nil)))), ?_⟩
  have sd0 : SD K H (L2.start nNeedCosts [v1, v2]) [some (dHouse n ds), some (dLay cs)] := sd_cons h1 (sd_cons h2 sd_nil)
  have hl := ok.len
  refine if_D false sd0 ⟨true, ⟨_, ⟨_, _, rfl, ⟨_, _, ⟨_, _, rfl, rfl, ⟨_, 0, .inr rfl, rfl, rfl⟩⟩, ⟨_, _, ⟨_, _, rfl, rfl, ⟨_, 0, .inr rfl, rfl, rfl⟩⟩, rfl, rfl⟩, rfl⟩, rfl⟩,
    gIsList_yes (by rw [List.length_map]; omega) (by rw [List.length_map]; omega)⟩, rfl⟩ (fun h => nomatch h) (fun _ H1 e1 => ?_)
  refine ⟨_, _, sd0.ex e1, rfl, fun v H2 e2 hv => ?_⟩
  obtain ⟨a, xs, rfl, hsq, hda⟩ := dp_tuple hv
  have hlen : xs.length = cs.length := by rw [dps_len hda, List.length_map]
  refine ⟨a, xs, rfl, hsq, for_enumT (xs := xs) (fun i σ' H' => ∃ y2 y3, σ' = [some v1, some v2, y2, y3, none] ∧ Ex H2 H') ⟨none, none, rfl, Evl.Ex.refl _⟩ (fun i σ' H' _ ⟨_, _, _, e⟩ => Evl.ex_t e hsq) (fun i x T σ' H' hx hp hT => ?_) (fun σ' H' ⟨_, _, _, e⟩ => ?_)⟩
  · obtain ⟨y2, y3, rfl, e3⟩ := hp
    have hi : i < cs.length := by rw [← hlen]; exact (List.getElem?_eq_some_iff.mp hx).1
    obtain ⟨dx, hdx, hpx⟩ := dps_get' hda hx
    have hdi : cs[i]? = some cs[i] := List.getElem?_eq_getElem hi
    rw [List.getElem?_map, hdi] at hdx
    cases hdx
    refine ⟨T, [.int (i : Nat), x], rfl, .inl (.inl upd_same), rfl, _, _, rfl, _, _, rfl, rfl, ?_⟩
    have e4 : Ex H2 (upd H' T (.tup [.int (i : Nat), x])) := e3.trans (Evl.Ex.new hT)
    have rw' := ok.row cs[i] (List.getElem_mem hi)
    have le := ok.le cs[i] (List.getElem_mem hi)
    generalize cs[i] = row at hpx rw' le
    have sd1 : SD K (upd H' T (.tup [.int (i : Nat), x])) [some v1, some v2, some (.int (i : Nat)), some x, none] [none, none, none, some (dL row), none] := sd_skip (sd_skip (sd_skip (sd_cons (dp_ex e4 hpx) (sd_skip sd_nil))))
    refine if_D false sd1 ⟨false, ⟨true, ⟨_, ⟨_, _, rfl, ⟨_, _, rfl, ⟨_, _, rfl, rfl, rfl⟩, rfl⟩, rfl⟩, gIsList_yes (by rw [List.length_map]; omega) (by rw [List.length_map]; omega)⟩, rfl⟩,
      ⟨true, ⟨_, ⟨_, _, ⟨_, ⟨Nat, row, dN, fun _ => true, fun c => .bool true, rfl, ⟨sz_le (by omega), fun _ _ => rfl, fun c hc _ => ⟨rfl, ⟨_, ⟨_, _, rfl, ⟨_, _, rfl, ⟨_, _, rfl, rfl, rfl⟩, rfl⟩, rfl⟩, gIsIn_yes (by omega) (by have := le c hc; omega)⟩⟩⟩, rfl⟩, rfl⟩, rfl, rfl⟩, ?_⟩, rfl⟩⟩ (fun h => nomatch h) (fun _ H6 e6 => ⟨some (.int (i : Nat)), some x, rfl, e4.trans e6⟩)
    have := gAll_map row fun _ => true
    rw [List.all_eq_true.mpr fun _ _ => rfl] at this
    exact this
  · exact q .non H' (e1.trans (e2.trans e)) .non

abbrev sCostIn : Stmt := topS 35
theorem sc_cost_in : FnScope ["row", "number"] ["row", "number"] (defScope sCostIn) := ⟨rfl, rfl, rfl, by decide +kernel, rfl, by decide +kernel, by decide +kernel⟩
def gCostIn : List PyData → PyData → Prop := fun as d => ∃ (row : List Nat) (k : Nat), as = [dL row, dN k] ∧ 1 ≤ row.length ∧ d = dN (cinF row k)
theorem gMin_nat (a b : Nat) : gMin2 [dN a, dN b] (dN (min a b)) := ⟨_, _, rfl, iE (by split <;> omega)⟩
theorem ok_cost_in (D : DefAt K mg "cost_in" sCostIn ["row", "number"]) (m1 : mg "min" = none) (m2 : mg "len" = none) : Has P w K mg base 1 "cost_in" ["row", "number"] (spD K gCostIn) := by
  refine has_of D sc_cost_in (lenD fun ds d ⟨i, a, e, _⟩ => by rw [e]; rfl) fun f cdv A outer s H vs Q E hr h => ?_
  obtain ⟨as, d, hv, ⟨row, k, rfl, h0, rfl⟩, q⟩ := h
  obtain ⟨v1, v2, rfl, h1, h2⟩ := dps2 hv
  refine ⟨_, pss_one (ps_ret (de_ix id_ix (dv 0) (de_bi (cd_min2 rfl) rfl m1 bb_min (da_cons (dv 1) (da_cons (de_op od_sub (de_bi cd_len rfl m2 bb_len (da_cons (dv 0) da_nil)) de_int) da_nil))))), ?_⟩
  refine ret_D (sd_cons h1 (sd_cons h2 sd_nil)) ⟨_, dN (min k (row.length - 1)), rfl, ⟨_, ⟨_, _, rfl, ⟨_, _, ⟨_, _, ⟨_, ⟨_, _, rfl, rfl, rfl⟩, ⟨row.map dN, .inr rfl, rfl⟩⟩, rfl, ⟨_, _, rfl, rfl, rfl⟩⟩, rfl, rfl⟩, rfl⟩, ?_⟩, gIx_T (by omega)⟩ q
  have := gMin_nat k (row.length - 1)
  rw [List.length_map]
  have e : (((row.length - 1 : Nat) : Int)) = (row.length : Int) - 1 := by omega
  rw [show dN (row.length - 1) = .int ((row.length : Int) - 1) from iE e] at this
  exact this
/-- a comprehension over zip of two tuples of one length -/
theorem lc_zipT {a b : Addr} {xs ys : List V} {g : TG} {tq : TT} {tz : TE} {vs : List Nat} {σ : L2.St} {H1 : Hp} {D : Addr} {Qz : Hp → Prop} (hLen : xs.length = ys.length) (Pz : Nat → Hp → Prop) (hStart : Pz 0 (upd H1 D (.lst []))) (hBoth : ∀ i H, i ≤ xs.length → Pz i H → SqT K H a xs ∧ SqT K H b ys)
    (hStep : ∀ (i : Nat) (x y : V) (T : Addr) (H : Hp), xs[i]? = some x → ys[i]? = some y → Pz i H → H T = none → g (.ref T) (wipe σ vs) (upd H T (.tup [x, y])) fun σ2 H2 => wipe σ2 vs = wipe σ vs ∧ tq σ2 H2 fun b H3 =>
      if b = true then tz σ2 H3 fun y H4 => ∃ ac, H4 D = some (.lst ac) ∧ ac.length < sizeLine ∧ Pz (i + 1) (upd H4 D (.lst (ac ++ [y]))) else Pz (i + 1) H3) (hEnd : ∀ H, Pz xs.length H → Qz H) :
    ∃ W : Nat → Nat → Hp → Prop, (∃ m, W 0 m (upd H1 D (.lst []))) ∧ ∀ i m H, W i m H →
      ((RZ.ItzT K a b).stop i H ∧ Qz H) ∨ ((RZ.ItzT K a b).go i H ∧ ∃ Nz : Hp → Prop, (∀ H2', Nz H2' → ∃ m', m' < m ∧ W (i + 1) m' H2') ∧ ∀ x H2', (RZ.ItzT K a b).yld i H x H2' → g x (wipe σ vs) H2' fun σ2 H2 => wipe σ2 vs = wipe σ vs ∧ tq σ2 H2 fun b H3 =>
        if b = true then tz σ2 H3 fun y H4 => ∃ ac, H4 D = some (.lst ac) ∧ ac.length < sizeLine ∧ Nz (upd H4 D (.lst (ac ++ [y]))) else Nz H3) := by
  refine ⟨fun i m H => m = xs.length - i ∧ i ≤ xs.length ∧ Pz i H, ⟨xs.length, by simp, Nat.zero_le _, hStart⟩, ?_⟩
  rintro i m H ⟨rfl, hi, p⟩
  obtain ⟨qx, qy⟩ := hBoth i H hi p
  by_cases hLt : i < xs.length
  · have hx : xs[i]? = some xs[i] := List.getElem?_eq_getElem hLt
    have hy : ys[i]? = some (ys[i]'(by omega)) := List.getElem?_eq_getElem (by omega)
    refine .inr ⟨⟨xs, ys, _, _, qx, qy, hx, hy⟩, Pz (i + 1), fun H2' p2 => ⟨xs.length - (i + 1), by omega, rfl, hLt, p2⟩, fun v H2' y => ?_⟩
    obtain ⟨T, x2, y2, rfl, hT, rfl, f1, f2⟩ := y
    exact hStep i x2 y2 T H (f1 xs qx) (f2 ys qy) p hT
  · have e : i = xs.length := by omega
    subst e
    exact .inl ⟨⟨xs, ys, qx, qy, Or.inl (Nat.le_refl _)⟩, hEnd H p⟩
abbrev sCostOf : Stmt := topS 36
abbrev nCostOf : List Str := ["costs", "state", "row", "number"]
theorem sc_cost_of : FnScope nCostOf ["costs", "state"] (defScope sCostOf) := ⟨rfl, rfl, rfl, by decide +kernel, rfl, by decide +kernel, by decide +kernel⟩
def gCostOf : List PyData → PyData → Prop := fun as d => ∃ (n : Nat) (cs : List (List Nat)) (st : List Nat), as = [dLay cs, dL st] ∧ CostsOk n cs ∧ n ≤ 8 ∧ st.length = n ∧ d = dN (costF cs st)
theorem ok_cost_of (D : DefAt K mg "cost_of" sCostOf ["costs", "state"]) (m1 : mg "sum" = none) (m2 : mg "zip" = none) (F1 : Has P w K mg base 1 "cost_in" ["row", "number"] (spD K gCostIn)) : Has P w K mg base 2 "cost_of" ["costs", "state"] (spD K gCostOf) := by
  refine has_of D sc_cost_of (lenD fun ds d ⟨i, a, b, e, _⟩ => by rw [e]; rfl) fun f cdv A outer s H vs Q E hr h => ?_
  obtain ⟨as, d, hv, ⟨n, cs, st, rfl, ok, n8, hst, rfl⟩, q⟩ := h
  obtain ⟨v1, v2, rfl, h1, h2⟩ := dps2 hv
  have hl := ok.len
  refine ⟨_, pss_one (ps_ret (pe_callB (cd_sum rfl) rfl m1 bb_sum (pa_cons (pe_lc (own := [("row", 2), ("number", 3)]) (g := gTup K 2 (gCons (gName 2) (gCons (gName 3) gNil))) (tt := tDT K tYesD) (te := tD K (fCall gCostIn (fCons (fV 2) (fCons (fV 3) fNil)))) rfl sc_cost_of.nd (RZ.pi_zipA rfl m2 (da_cons (dv 0) (da_cons (dv 1) da_nil))) (blkOk_by (N := nCostOf) (sc := defScope sCostOf) (by decide +kernel))
    (fun _ _ _ _ _ => pg_tup rfl (pgs_cons (pg_name (i := 2) sc_cost_of.nd rfl (.inl rfl)) (pgs_cons (pg_name (i := 3) sc_cost_of.nd rfl (.inl rfl)) pgs_nil))) (fun _ _ _ _ _ => dts_nil) (fun _ _ _ _ _ => de_def F1 hr (by decide) rfl (da_cons (dv 2) (da_cons (dv 3) da_nil)))) pa_nil))), ?_⟩
  have sd0 : SD K H (L2.start nCostOf [v1, v2]) [some (dLay cs), some (dL st)] := sd_cons h1 (sd_cons h2 sd_nil)
  refine ⟨_, _, sd0, ⟨_, _, rfl, ⟨_, _, rfl, rfl, rfl⟩, rfl⟩, fun vs1 H1 e1 hvs => ?_⟩
  obtain ⟨u1, u2, rfl, hu1, hu2⟩ := dps2 hvs
  obtain ⟨a, xs, rfl, hsx, hdx⟩ := dp_tuple hu1
  obtain ⟨b, ys, rfl, hsy, hdy⟩ := dp_tuple hu2
  have hxl : xs.length = cs.length := by rw [dps_len hdx, List.length_map]
  have hyl : ys.length = st.length := by rw [dps_len hdy, List.length_map]
  refine ⟨a, b, xs, ys, rfl, .inr ⟨hsx, hsy, fun D hD => lc_zipT (xs := xs) (ys := ys) (by omega) (fun i H' => Ex H1 H' ∧ H' D = some (.lst ((((cs.zip st).take i).map fun p => cinF p.1 p.2).map vN))) ⟨Evl.Ex.new hD, upd_same⟩ (fun i H' _ hp => ⟨Evl.ex_t hp.1 hsx, Evl.ex_t hp.1 hsy⟩) (fun i x y T H' hx hy hp hT => ?_) (fun H' hp => ?_)⟩⟩
  · obtain ⟨eH, hDa⟩ := hp
    have hi : i < cs.length := by rw [← hxl]; exact (List.getElem?_eq_some_iff.mp hx).1
    obtain ⟨dx, e1x, hpx⟩ := dps_get' hdx hx
    obtain ⟨dy, e1y, hpy⟩ := dps_get' hdy hy
    have hci : cs[i]? = some cs[i] := List.getElem?_eq_getElem hi
    have hsi : st[i]? = some (st[i]'(by omega)) := List.getElem?_eq_getElem (by omega)
    rw [List.getElem?_map, hci] at e1x
    rw [List.getElem?_map, hsi] at e1y
    cases e1x
    cases e1y
    have hz : (cs.zip st)[i]? = some (cs[i], st[i]'(by omega)) := by rw [List.getElem?_zip_eq_some]; exact ⟨hci, hsi⟩
    have hrow := ok.row cs[i] (List.getElem_mem hi)
    generalize cs[i] = row at hci hpx hz hrow
    generalize st[i]'(by omega) = nu at hsi hpy hz
    refine ⟨T, [x, y], rfl, .inl (.inl upd_same), rfl, _, _, rfl, _, _, rfl, rfl, ?_, [], true, sd_nil, rfl, fun H3 e3 => ?_⟩
    · rfl
    · dsimp only
      rw [if_pos rfl]
      have eT : Ex H' (upd H' T (.tup [x, y])) := Evl.Ex.new hT
      refine ⟨[none, none, some (dL row), some (dN nu)], _, sd_skip (sd_skip (sd_cons (dp_ex ((eH.trans eT).trans e3) hpx) (sd_cons (dp_ex ((eH.trans eT).trans e3) hpy) sd_nil))), ⟨_, ⟨_, _, rfl, ⟨_, _, rfl, rfl, rfl⟩, rfl⟩, ⟨row, nu, rfl, hrow.1, rfl⟩⟩, fun v4 H4 e4 hv4 => ?_⟩
      have hD4 : H4 D = some (.lst ((((cs.zip st).take i).map fun p => cinF p.1 p.2).map vN)) := e4 _ _ (e3 _ _ (eT _ _ hDa))
      refine ⟨_, hD4, ?_, ?_, ?_⟩
      · rw [List.length_map, List.length_map, List.length_take]
        exact small1000 (by omega)
      · intro b' o hb
        rw [upd_ne (ne_of_none hb hD)]
        exact e4 _ _ (e3 _ _ (eT _ _ (eH _ _ hb)))
      · rw [upd_same, dp_int hv4, List.take_add_one, hz, List.map_append, List.map_append]
        rfl
  · obtain ⟨eH, hDa⟩ := hp
    have htk : (cs.zip st).take xs.length = cs.zip st := List.take_of_length_le (by rw [List.length_zip]; omega)
    rw [htk] at hDa
    have hsum := sum_cast (fun p : List Nat × Nat => cinF p.1 p.2) (cs.zip st)
    refine ⟨_, _, dps_one (dp_lst_at hDa (dps_nats _)), ⟨(cs.zip st).map fun p : List Nat × Nat => (cinF p.1 p.2 : Int), .inl (by rw [List.map_map, List.map_map]; rfl), rfl⟩, fun v9 H9 e9 hv9 => ?_⟩
    refine q v9 H9 ((e1.trans eH).trans e9) ?_
    rw [hsum] at hv9
    exact hv9
end
end Mx
/-! P7b: least_from, least_cost -/
namespace Mx
open PySem PySem.Spec PyProof.Rows L2
def dO : Option Nat → PyData
  | none => .none
  | some n => dN n
def rdC (rows cs : List (List Nat)) : V → NestedKey → Prop := fun v k => ∀ rooms lvl, k = kP rooms lvl → v = vN (leastF rows cs rooms.length rooms lvl)
section
variable {P : Program} {w : World} {K : PySem.W.Frag} {mg : Str → Option Value} {base : Heap}
abbrev sLeastFrom : Stmt := topS 37
abbrev nLeastFrom : List Str := ["rows", "rooms", "level", "costs", "known", "best", "some", "rest", "told", "room"]
theorem sc_least_from : FnScope nLeastFrom ["rows", "rooms", "level", "costs", "known"] (defScope sLeastFrom) := ⟨rfl, rfl, rfl, by decide +kernel, rfl, by decide +kernel, by decide +kernel⟩
structure LeIn (m n : Nat) (rows : List (List Nat)) (rooms : List Nat) (lvl : Nat) (cs : List (List Nat)) : Prop where
  b : RowsB n rows
  n8 : n ≤ 8
  sub : rooms.Sublist (List.range n)
  le : rooms.length ≤ m
  lv : lvl + rooms.length ≤ 8
  c : CostsOk n cs
def spLeast (P : Program) (w : World) (K : PySem.W.Frag) (m : Nat) : Sp := fun vs H Q _ => ∃ (d : Addr) (v0 v1 v3 : V) (n : Nat) (rows : List (List Nat)) (rooms : List Nat) (lvl : Nat) (cs : List (List Nat)), vs = [v0, v1, vN lvl, v3, .ref d] ∧ Dp K H v0 (dRows rows) ∧ Dp K H v1 (dL rooms) ∧ Dp K H v3 (dLay cs) ∧
  LeIn m n rows rooms lvl cs ∧ Memo P w K (uP n) (rdC rows cs) H d ∧ ∀ H', ExB d H H' → Memo P w K (uP n) (rdC rows cs) H' d → Q (vN (leastF rows cs m rooms lvl)) H'
theorem gLt_nat (a b : Nat) : gIB (fun i j => decide (i < j)) (dN a) (dN b) (.bool (decide (a < b))) := ⟨_, _, rfl, rfl, by
  dsimp only
  by_cases h : a < b
  · rw [decide_eq_true h, decide_eq_true (by omega)]
  · rw [decide_eq_false h, decide_eq_false (by omega)]⟩
theorem bestF_snoc (ts : List Nat) (t : Nat) : bestF (ts ++ [t]) = betterF (bestF ts) t := by
  unfold bestF
  rw [List.foldl_append]
  rfl
theorem dp_exB {K : PySem.W.Frag} {H H' : Hp} {d : Addr} {φ : Heap → Prop} (hd : H d = some (.ext φ)) (e : ExB d H H') {x : PyData} {v : V} (h : Dp K H v x) : Dp K H' v x := dp_exb hd (by exact True.intro) e h
theorem ok_least_from (D : DefAt K mg "least_from" sLeastFrom ["rows", "rooms", "level", "costs", "known"]) (m1 : mg "tuple" = none) (m2 : mg "sum" = none) (F1 : Has P w K mg base 2 "largest_in" ["rows", "rooms"] (spL K gLargestIn)) (F2 : Has P w K mg base 1 "cost_in" ["row", "number"] (spD K gCostIn)) :
    ∀ m, m ≤ 6 → Has P w K mg base (3 + m) "least_from" ["rows", "rooms", "level", "costs", "known"] (spLeast P w K m) := by
  have len5 : ∀ m vs H Q E, spLeast P w K m vs H Q E → vs.length = 5 := fun m vs H Q E ⟨_, _, _, _, _, _, _, _, _, e, _⟩ => by rw [e]; rfl
  intro m
  induction m with
  | zero =>
    intro _
    refine has_of D sc_least_from (len5 0) fun f cdv A outer s H vs Q E hr h => ?_
    obtain ⟨d, v0, v1, v3, n, rows, rooms, lvl, cs, rfl, h0, h1, h3, hin, memo, q⟩ := h
    obtain rfl : rooms = [] := List.length_eq_zero_iff.mp (Nat.le_zero.mp hin.le)
    refine ⟨_, pss_cons (ps_if (dt_cmp (od_eq hr.units) (dv 1) (de_tup da_nil) (nomark _)) (pss_one (ps_ret pe_int)) pss_nil) pss_never, ?_⟩
    exact if_D true (sd_skip (sd_cons h1 sd_nil)) ⟨_, _, rfl, ⟨[], rfl, Nat.zero_le _, rfl⟩, gEq_dL [] []⟩ (fun _ H1 e1 => q H1 (ExB.of e1) (memo.ex e1 fun _ _ h => h)) (fun h => nomatch h)
  | succ m ih =>
    intro hm
    have ih := ih (by omega)
    refine has_of D sc_least_from (len5 (m + 1)) fun f cdv A outer s H vs Q E hr h => ?_
    obtain ⟨d, v0, v1, v3, n, rows, rooms, lvl, cs, rfl, h0, h1, h3, hin, memo, q⟩ := h
    refine ⟨_, pss_cons (ps_if (dt_cmp (od_eq hr.units) (dv 1) (de_tup da_nil) (nomark _)) (pss_one (ps_ret pe_int)) pss_nil)
      (pss_cons (ps_if (pt_cmpR (op_mnot hr.units) (de_tup (da_cons (dv 1) (da_cons (dv 2) da_nil))) (pv 4) rfl)
        (pss_cons (ps_set (i := 5) sc_least_from.nd rfl (.inl rfl) de_none)
        (pss_cons (ps_for PassesOwn.never rfl (pi_list (dl_def F1 hr (show 2 ≤ 3 + m by omega) rfl (da_cons (dv 0) (da_cons (dv 1) da_nil)))) (pg_name (i := 6) sc_least_from.nd rfl (.inr rfl))
          (pss_cons (ps_set (i := 7) sc_least_from.nd rfl (.inl rfl) (de_ty cd_tuple rfl m1 bt_tuple (da_cons (de_lcT (x := "room") (j := 9) rfl sc_least_from.nd rfl (dv 1) (blkOk_by (N := nLeastFrom) (sc := defScope sLeastFrom) (by decide +kernel)) (fun _ _ _ _ _ => pg_name (i := 9) sc_least_from.nd rfl (.inl rfl))
            (fun _ _ _ _ _ => dts_one (dt_cmp od_notIn (dv 9) (dv 6) rfl)) (fun _ _ _ _ _ => dv 9)) da_nil)))
          (pss_cons (ps_set (i := 8) sc_least_from.nd rfl (.inl rfl) (pe_op op_add (de_bi (cd_sum rfl) rfl m2 bb_sum (da_cons (de_lcT (x := "room") (j := 9) rfl sc_least_from.nd rfl (dv 6) (blkOk_by (N := nLeastFrom) (sc := defScope sLeastFrom) (by decide +kernel)) (fun _ _ _ _ _ => pg_name (i := 9) sc_least_from.nd rfl (.inl rfl)) (fun _ _ _ _ _ => dts_nil)
              (fun _ _ _ _ _ => de_def F2 hr (show 1 ≤ 3 + m by omega) rfl (da_cons (de_ix id_ix (dv 3) (dv 9)) (da_cons (dv 2) da_nil)))) da_nil))
            (pe_def ih hr (Nat.le_refl _) rfl (pa_cons (pv 0) (pa_cons (pv 7) (pa_cons (pe_op op_add (pv 2) pe_int) (pa_cons (pv 3) (pa_cons (pv 4) pa_nil))))))))
          (pss_one (ps_set (i := 5) sc_least_from.nd rfl (.inl rfl) (de_if (PW.pt (dw_or (dt_cmp od_isN (dv 5) de_none (nomark _)) (dw_or1 (dt_cmp od_lt (dv 8) (dv 5) (nomark _))))) (dv 8) (dv 5)))))))
        (pss_one (ps_mput hr.units (pv 4) (de_tup (da_cons (dv 1) (da_cons (dv 2) da_nil))) (pv 5))))) pss_nil)
      (pss_one (ps_ret (pe_mget hr.units (pv 4) (de_tup (da_cons (dv 1) (da_cons (dv 2) da_nil))) (fun _ _ => rfl))))), ?_⟩
    obtain ⟨φ, hφ⟩ := memo.at_
    have hkd : (kP rooms lvl).depth ≤ 8 := by rw [depth_kP]; decide
    have hkn : noL (kP rooms lvl).data = true := by
      rw [data_kP]
      show (noL (dL rooms) && (true && true)) = true
      rw [noL_dL rooms]
      rfl
    have tail : ∀ (σ' : L2.St) (H' : Hp), SD K H' σ' [none, some (dL rooms), some (dN lvl)] → σ'[4]? = some (some (.ref d)) → ExB d H H' → MemoAt P w K (uP n) (rdC rows cs) H' d (kP rooms lvl) →
        tRet (tOp (rMGet P w K) (tVar 4) (tD K (fTup (fCons (fV 1) (fCons (fV 2) fNil))))) { nx := fun _ H' => Q .non H', rt := Q } σ' H' := by
      intro σ' H' hs g4 eB hat
      refine ⟨_, g4, _, _, hs, ⟨_, ⟨_, _, rfl, ⟨_, _, rfl, rfl, rfl⟩, rfl⟩, (by show 2 ≤ sizeLine; decide), rfl⟩, fun v H2 e2 hv => ⟨d, _, _, _, rfl, hat.ex e2 (fun _ _ h => h), by rw [← kP, data_kP]; exact hv, hkd, fun v' hv' => ?_⟩⟩
      rw [hv' rooms lvl rfl, leastF_any rows cs (Nat.le_refl _) hin.le]
      exact q H2 (eB.trans (ExB.of e2)) (hat.memo.ex e2 fun _ _ h => h)
    by_cases hr0 : rooms = []
    · subst hr0
      refine if_D true (sd_skip (sd_cons h1 sd_nil)) ⟨_, _, rfl, ⟨[], rfl, Nat.zero_le _, rfl⟩, gEq_dL [] []⟩ (fun _ H1 e1 => ?_) (fun h => nomatch h)
      have := q H1 (ExB.of e1) (memo.ex e1 fun _ _ h => h)
      rw [leastF, if_pos rfl] at this
      exact this
    refine if_D false (sd_skip (sd_cons h1 sd_nil)) ⟨_, _, rfl, ⟨[], rfl, Nat.zero_le _, rfl⟩, by have := gEq_dL rooms []; rw [decide_eq_false hr0] at this; exact this⟩ (fun h => nomatch h) (fun _ H1 e1 => ?_)
    have hrl : rooms.length ≤ 8 := by have := hin.lv; omega
    have hlt := sub_lt hin.sub
    refine ⟨_, _, (sd_skip (sd_cons (dp_ex e1 h1) (sd_cons (.int _) sd_nil)) : SD K H1 _ [none, some (dL rooms), some (dN lvl)]), ⟨_, ⟨_, _, rfl, ⟨_, _, rfl, rfl, rfl⟩, rfl⟩, (by show 2 ≤ sizeLine; decide), rfl⟩, fun vk H2 e2 hvk => ⟨.ref d, rfl, d, _, _, _, rfl, memo.ex (e1.trans e2) (fun _ _ h => h), by rw [← kP, data_kP]; exact hvk, hkd, fun hat => ⟨false, rfl, ?_⟩, ⟨true, rfl, ?_⟩⟩⟩
    · dsimp only
      rw [if_neg Bool.false_ne_true]
      exact tail _ H2 (sd_skip (sd_cons (dp_ex (e1.trans e2) h1) (sd_cons (.int _) sd_nil))) rfl (ExB.of (e1.trans e2)) hat
    dsimp only
    rw [if_pos rfl]
    have e12 : Ex H H2 := e1.trans e2
    -- best = None
    refine asg_D (ρ := []) sd_nil rfl fun v5 H3 e3 hv5 => ?_
    have e13 : Ex H H3 := e12.trans e3
    refine ⟨_, _, (sd_cons (dp_ex e13 h0) (sd_cons (dp_ex e13 h1) sd_nil) : SD K H3 _ [some (dRows rows), some (dL rooms)]), ⟨_, ⟨_, _, rfl, ⟨_, _, rfl, rfl, rfl⟩, rfl⟩, ⟨n, rows, rooms, rfl, hin.b, hlt, hr0, hrl, rfl⟩⟩, fun qa acc H4 hqa e4 hacc hda => ⟨qa, rfl, ⟨acc, .inl (.inl hacc)⟩, ?_⟩⟩
    have e14 : Ex H H4 := e13.trans e4
    have hqd : qa ≠ d := (ne_of_none hφ (Evl.fresh_back e13 hqa)).symm
    have hφ4 : H4 d = some (.ext φ) := e14 _ _ hφ
    have hlen : acc.length = (largestF rows rooms).length := by rw [dps_len hda, List.length_map]
    let step : List Nat → Nat := fun s => stepC cs lvl s + leastF rows cs m (leftF rooms s) (lvl + 1)
    refine for_list (xs := acc) (fun i σ' H' => ∃ v5 y6 y7 y8, σ' = [some v0, some v1, some (vN lvl), some v3, some (.ref d), some v5, y6, y7, y8, none] ∧ ExB d H4 H' ∧ Memo P w K (uP n) (rdC rows cs) H' d ∧ Dp K H' v5 (dO (bestF (((largestF rows rooms).take i).map step))))
      ⟨v5, none, none, none, rfl, ExB.refl, memo.ex e14 (fun _ _ h => h), dp_ex e4 hv5⟩ (fun i σ' H' _ ⟨_, _, _, _, _, eb, _⟩ => .inl (.inl (eb _ _ hqd hacc))) (fun i x σ' H' hx hpv => ?_) (fun σ' H' hpv => ?_)
    · obtain ⟨v5, y6, y7, y8, rfl, eb, memo', hb5⟩ := hpv
      have hi : i < (largestF rows rooms).length := by rw [← hlen]; exact (List.getElem?_eq_some_iff.mp hx).1
      obtain ⟨dx, hdx, hpx⟩ := dps_get' hda hx
      have hsi : (largestF rows rooms)[i]? = some (largestF rows rooms)[i] := List.getElem?_eq_getElem hi
      rw [List.getElem?_map, hsi] at hdx
      cases hdx
      have hmem : (largestF rows rooms)[i] ∈ largestF rows rooms := List.getElem_mem hi
      generalize (largestF rows rooms)[i] = sm at hsi hpx hmem
      have hsub := largestF_sub hmem
      have hsl : sm.length ≤ 8 := Nat.le_trans hsub.length_le hrl
      have eH : ExB d H H' := (ExB.of e14).trans eb
      have hx1 : Dp K H' x (dL sm) := dp_exB hφ4 eb hpx
      have h1' : Dp K H' v1 (dL rooms) := dp_exB hφ eH h1
      have h3' : Dp K H' v3 (dLay cs) := dp_exB hφ eH h3
      have hll := leftF_len hr0 hmem
      -- rest = ..
      refine asg_D (sd_cons (dp_exB hφ eH h0) (sd_cons h1' (sd_cons (.int _) (sd_cons h3' (sd_skip (sd_skip (sd_cons hx1 (sd_skip (sd_skip (sd_skip sd_nil)))))))))) ⟨_, ⟨_, _, ⟨_, ⟨Nat, rooms, dN, fun r => !decide (r ∈ sm), dN, rfl, ⟨sz_le (by omega), fun r _ => ⟨_, _, rfl, rfl, gNotInN r sm⟩, fun r _ _ => ⟨rfl, rfl⟩⟩, rfl⟩, rfl⟩, rfl, rfl⟩, ⟨_, rfl, rfl⟩⟩ fun vr H5 e5 hvr => ?_
      have hvr : Dp K H5 vr (dL (leftF rooms sm)) := hvr
      have eb5 : ExB d H4 H5 := eb.trans (ExB.of e5)
      -- told = ..
      refine ⟨_, _, (sd_skip (sd_skip (sd_cons (.int _) (sd_cons (dp_ex e5 h3') (sd_skip (sd_skip (sd_cons (dp_ex e5 hx1) (sd_skip (sd_skip (sd_skip sd_nil))))))))) : SD K H5 _ [none, none, some (dN lvl), some (dLay cs), none, none, some (dL sm), none, none, none]), ⟨_, ⟨_, _, ⟨_, ⟨Nat, sm, dN, fun _ => true, fun r => dN (cinF (cs.getD r []) lvl), rfl, ⟨sz_le (by omega), fun _ _ => rfl, fun r hr' _ => ⟨rfl, ?_⟩⟩, rfl⟩, rfl⟩, rfl, rfl⟩, gSum_map _ _⟩, fun vs6 H6 e6 hv6 => ?_⟩
      · have hrn := hlt r (hsub.subset hr')
        refine ⟨_, ⟨_, _, ⟨_, _, rfl, rfl, ⟨_, r, .inr rfl, rfl, ?_⟩⟩, ⟨_, _, rfl, rfl, rfl⟩, rfl⟩, ⟨cs.getD r [], lvl, rfl, (hin.c.at hrn).1, rfl⟩⟩
        rw [List.getElem?_map, List.getD_eq_getElem?_getD, List.getElem?_eq_getElem (by rw [hin.c.len]; exact hrn)]
        rfl
      have eb6 : ExB d H4 H6 := eb5.trans (ExB.of e6)
      have eH6 : ExB d H H6 := (ExB.of e14).trans eb6
      refine ⟨v0, rfl, vr, rfl, vN lvl, rfl, lvl, 1, rfl, rfl, v3, rfl, .ref d, rfl, d, v0, vr, v3, n, rows, leftF rooms sm, lvl + 1, cs, rfl, dp_exB hφ eH6 h0, dp_ex e6 hvr, dp_exB hφ eH6 h3, ⟨hin.b, hin.n8, (leftF_sub rooms sm).trans hin.sub, by have := hin.le; omega, by have := hin.lv; omega, hin.c⟩, memo'.ex (e5.trans e6) (fun _ _ h => h), fun H7 e7 memo7 => ?_⟩
      obtain rfl := dp_int hv6
      refine ⟨_, _, rfl, rfl, ?_⟩
      -- best = ..
      have hb7 : Dp K H7 v5 (dO (bestF (((largestF rows rooms).take i).map step))) := by
        have hφ6 : H6 d = some (.ext _) := (memo'.ex (e5.trans e6) fun _ _ h => h).at_.choose_spec
        exact dp_exB hφ6 e7 (dp_ex (e5.trans e6) hb5)
      have htk : ((largestF rows rooms).take (i + 1)).map step = ((largestF rows rooms).take i).map step ++ [step sm] := by
        rw [List.take_add_one, hsi, List.map_append]
        rfl
      have hstep : ((sm.map fun r => cinF (cs.getD r []) lvl).sum : Int) + (leastF rows cs m (leftF rooms sm) (lvl + 1) : Nat) = ((step sm : Nat) : Int) := by
        show _ = ((stepC cs lvl sm + leastF rows cs m (leftF rooms sm) (lvl + 1) : Nat) : Int)
        rw [Int.natCast_add]
        rfl
      refine asg_D (d := dO (bestF (((largestF rows rooms).take (i + 1)).map step))) (sd_skip (sd_skip (sd_skip (sd_skip (sd_skip (sd_cons hb7 (sd_skip (sd_skip (sd_cons (.int _) sd_nil))))))))) ?_ fun v5' H8 e8 hv8 => ⟨v5', some x, some vr, _, rfl, (eb6.trans e7).trans (ExB.of e8), memo7.ex e8 (fun _ _ h => h), hv8⟩
      rw [htk, bestF_snoc]
      generalize bestF (((largestF rows rooms).take i).map step) = b5
      have h8 : PyData.int (((sm.map fun r => cinF (cs.getD r []) lvl).sum : Int) + (leastF rows cs m (leftF rooms sm) (lvl + 1) : Nat)) = dN (step sm) := iE hstep
      rw [h8]
      cases b5 with
      | none => exact ⟨true, ⟨true, ⟨_, _, rfl, rfl, rfl, rfl⟩, rfl⟩, rfl⟩
      | some b =>
        refine ⟨decide (step sm < b), ⟨false, ⟨_, _, rfl, rfl, rfl, rfl⟩, ⟨_, _, rfl, rfl, gLt_nat _ _⟩⟩, ?_⟩
        by_cases hlt' : step sm < b
        · rw [decide_eq_true hlt']
          show _ = some (some (dN (if step sm < b then step sm else b)))
          rw [if_pos hlt']
          rfl
        · rw [decide_eq_false hlt']
          show _ = some (some (dN (if step sm < b then step sm else b)))
          rw [if_neg hlt']
          rfl
    · obtain ⟨v5, y6, y7, y8, rfl, eb, memo', hb5⟩ := hpv
      rw [hlen, List.take_length] at hb5
      obtain ⟨b, hb1, _, _⟩ := best_ne (ts := (largestF rows rooms).map step) (fun e => largestF_some rows rooms (List.map_eq_nil_iff.mp e))
      rw [hb1] at hb5
      have eH : ExB d H H' := (ExB.of e14).trans eb
      obtain rfl : v5 = vN b := dp_int hb5
      have hval : leastF rows cs (m + 1) rooms lvl = b := by
        rw [leastF, if_neg hr0]
        show (bestF ((largestF rows rooms).map step)).getD 0 = b
        rw [hb1]
        rfl
      refine ⟨_, rfl, .ref d, rfl, _, _, (sd_skip (sd_cons (dp_exB hφ eH h1) (sd_cons (.int _) sd_nil)) : SD K H' _ [none, some (dL rooms), some (dN lvl)]), ⟨_, ⟨_, _, rfl, ⟨_, _, rfl, rfl, rfl⟩, rfl⟩, (by show 2 ≤ sizeLine; decide), rfl⟩, fun vk2 H8 e8 hvk2 => ⟨d, _, _, rdC rows cs, rdC rows cs, rfl, memo'.ex e8 (fun _ _ h => h), by rw [← kP, data_kP]; exact hvk2, hkn, hkd, uP_mem hin.sub (by have := hin.lv; omega), uP_len hin.n8, fun _ _ h => h, ?_, fun H9 eB9 eT9 hat9 => ?_⟩⟩
      · intro rooms' lvl' e
        obtain ⟨rfl, rfl⟩ := kP_inj (show kP rooms lvl = kP rooms' lvl' from e)
        rw [← hval, leastF_any rows cs (Nat.le_refl _) hin.le]
      · exact tail _ H9 (sd_skip (sd_cons (dp_exB hφ ((eH.trans (ExB.of e8)).trans eB9) h1) (sd_cons (.int _) sd_nil))) rfl ((eH.trans (ExB.of e8)).trans eB9) hat9
end
end Mx
/-! P7c: least_cost, cheapest, cheapest_below -/
namespace Mx
open PySem PySem.Spec PyProof.Rows L2
theorem chF_more (rows cs : List (List Nat)) : ∀ (k : Nat) (rooms : List Nat) (lvl : Nat), rooms.length ≤ k → chF rows cs (k + 1) rooms lvl = chF rows cs k rooms lvl
  | 0, rooms, lvl, h => by
    have : rooms = [] := List.length_eq_zero_iff.mp (by omega)
    subst this
    rfl
  | k + 1, rooms, lvl, h => by
    rw [chF]
    conv => rhs; rw [chF]
    by_cases h0 : rooms = []
    · rw [if_pos h0, if_pos h0]
    · rw [if_neg h0, if_neg h0]
      have hp : pickF rows cs (k + 1) rooms lvl = pickF rows cs k rooms lvl := by
        unfold pickF
        congr 1
        have : ∀ (L : List (List Nat)), (∀ s ∈ L, s ∈ largestF rows rooms) → (L.find? fun s => decide (stepC cs lvl s + leastF rows cs (k + 1) (leftF rooms s) (lvl + 1) = leastF rows cs (k + 1 + 1) rooms lvl)) = L.find? fun s => decide (stepC cs lvl s + leastF rows cs k (leftF rooms s) (lvl + 1) = leastF rows cs (k + 1) rooms lvl) := by
          intro L
          induction L with
          | nil => intro _; rfl
          | cons s L ih =>
            intro hL
            rw [List.find?_cons, List.find?_cons, ih fun t ht => hL t (List.mem_cons_of_mem _ ht), leastF_more rows cs (k + 1) rooms lvl h, leastF_more rows cs k (leftF rooms s) _ (by have := leftF_len h0 (hL s List.mem_cons_self); omega)]
        exact this _ fun s h => h
      rw [hp, chF_more rows cs k _ _ (by have := leftF_len h0 (pick_ok rows cs k lvl h0).1; omega)]
/-- the first that fits is the one picked -/
theorem pick_first (rows cs : List (List Nat)) (k : Nat) {rooms sm : List Nat} (lvl : Nat) (h0 : rooms ≠ []) (hk : rooms.length ≤ k + 1) (hk6 : k + 1 ≤ 6) {i : Nat} (hi : (largestF rows rooms)[i]? = some sm)
    (hno : ∀ s ∈ (largestF rows rooms).take i, ¬ stepC cs lvl s + leastF rows cs 6 (leftF rooms s) (lvl + 1) = leastF rows cs 6 rooms lvl) (hy : stepC cs lvl sm + leastF rows cs 6 (leftF rooms sm) (lvl + 1) = leastF rows cs 6 rooms lvl) : pickF rows cs k rooms lvl = sm := by
  have conv : ∀ s ∈ largestF rows rooms, (decide (stepC cs lvl s + leastF rows cs k (leftF rooms s) (lvl + 1) = leastF rows cs (k + 1) rooms lvl) = true ↔ stepC cs lvl s + leastF rows cs 6 (leftF rooms s) (lvl + 1) = leastF rows cs 6 rooms lvl) := fun s hs => by
    have := leftF_len h0 hs
    rw [leastF_any rows cs (show rooms.length ≤ 6 by omega) hk, leastF_any rows cs (show (leftF rooms s).length ≤ 6 by omega) (show (leftF rooms s).length ≤ k by omega), decide_eq_true_iff]
  have hil := (List.getElem?_eq_some_iff.mp hi)
  obtain ⟨hlt, hge⟩ := hil
  have hsp : largestF rows rooms = (largestF rows rooms).take i ++ sm :: (largestF rows rooms).drop (i + 1) := by
    rw [← hge, ← List.drop_eq_getElem_cons hlt, List.take_append_drop]
  have hm : sm ∈ largestF rows rooms := List.mem_of_getElem? hi
  unfold pickF
  have hsm := (conv sm hm).mpr hy
  rw [hsp, List.find?_append, List.find?_eq_none.mpr fun s hs => ?_, List.find?_cons, hsm]
  · rfl
  · intro h
    exact hno s hs ((conv s (List.mem_of_mem_take hs)).mp h)
section
variable {P : Program} {w : World} {K : PySem.W.Frag} {mg : Str → Option Value} {base : Heap}
abbrev sLeastCost : Stmt := topS 38
theorem sc_least_cost : FnScope ["house", "costs"] ["house", "costs"] (defScope sLeastCost) := ⟨rfl, rfl, rfl, by decide +kernel, rfl, by decide +kernel, by decide +kernel⟩
def gLeastCost : List PyData → PyData → Prop := fun as d => ∃ (n : Nat) (ds : List (Nat × Nat)) (cs : List (List Nat)), as = [dHouse n ds, dLay cs] ∧ HouseOk n ds ∧ n ≤ 6 ∧ CostsOk n cs ∧ d = dN (leastF (nearF n ds) cs n (List.range n) 0)
theorem ok_least_cost (D : DefAt K mg "least_cost" sLeastCost ["house", "costs"]) (m2 : mg "tuple" = none) (m3 : mg "range" = none) (F1 : Has P w K mg base 4 "need_house" ["house"] (spD K gNeedHouse)) (F2 : Has P w K mg base 3 "need_costs" ["house", "costs"] (spD K gNeedCosts)) (F3 : Has P w K mg base 1 "near" ["house"] (spD K gNear))
    (F4 : Has P w K mg base 9 "least_from" ["rows", "rooms", "level", "costs", "known"] (spLeast P w K 6)) : Has P w K mg base 10 "least_cost" ["house", "costs"] (spD K gLeastCost) := by
  refine has_of D sc_least_cost (lenD fun ds d ⟨i, a, b, e, _⟩ => by rw [e]; rfl) fun f cdv A outer s H vs Q E hr h => ?_
  obtain ⟨as, d, hv, ⟨n, ds, cs, rfl, ok, n6, okc, rfl⟩, q⟩ := h
  obtain ⟨v0, v1, rfl, h0, h1⟩ := dps2 hv
  refine ⟨_, pss_cons (ps_expr (de_def F1 hr (by decide) rfl (da_cons (dv 0) da_nil))) (pss_cons (ps_expr (de_def F2 hr (by decide) rfl (da_cons (dv 0) (da_cons (dv 1) da_nil))))
    (pss_one (ps_ret (pe_def F4 hr (Nat.le_refl _) rfl (pa_cons (de_def F3 hr (by decide) rfl (da_cons (dv 0) da_nil)) (pa_cons (de_tupR rfl rfl m2 rfl m3 (de_ix id_ix (dv 0) de_int)) (pa_cons pe_int (pa_cons (pv 1) (pa_cons pe_mnew pa_nil))))))))), ?_⟩
  have sd0 : SD K H [some v0, some v1] [some (dHouse n ds), some (dLay cs)] := sd_cons h0 (sd_cons h1 sd_nil)
  have n1 := ok.n1
  refine drop_D sd0 ⟨_, ⟨_, _, rfl, rfl, rfl⟩, ⟨n, ds, rfl, ok, rfl⟩⟩ fun _ H1 e1 _ => ?_
  refine drop_D (sd0.ex e1) ⟨_, ⟨_, _, rfl, ⟨_, _, rfl, rfl, rfl⟩, rfl⟩, ⟨n, ds, cs, rfl, okc, by omega, rfl⟩⟩ fun _ H2 e2 _ => ?_
  refine ⟨_, _, sd0.ex (e1.trans e2), ⟨_, ⟨_, _, rfl, rfl, rfl⟩, ⟨n, ds, rfl, ok, rfl⟩⟩, fun v3 H3 e3 hv3 => ⟨_, _, sd0.ex ((e1.trans e2).trans e3), ⟨n, ⟨_, _, rfl, rfl, ⟨_, 0, .inr rfl, rfl, rfl⟩⟩, by omega, rfl⟩, fun v4 H4 e4 hv4 => ⟨v1, rfl, fun p hp hsys => ?_⟩⟩⟩
  have e04 : Ex H H4 := ((e1.trans e2).trans e3).trans e4
  have hpH : H p = none := Evl.fresh_back e04 hp
  refine ⟨p, v3, v4, v1, n, nearF n ds, List.range n, 0, cs, rfl, dp_ex (e4.trans (Evl.Ex.new hp)) hv3, dp_ex (Evl.Ex.new hp) hv4, dp_ex (e04.trans (Evl.Ex.new hp)) h1, ⟨nearB ok.lt' ok.lim, by omega, List.Sublist.refl _, by rw [List.length_range]; exact n6, by rw [List.length_range]; omega, okc⟩, memo_new hsys upd_same, fun H5 e5 _ => ?_⟩
  rw [leastF_any (nearF n ds) cs (show (List.range n).length ≤ 6 by rw [List.length_range]; exact n6) (show (List.range n).length ≤ n by rw [List.length_range]; exact Nat.le_refl _)]
  exact q _ H5 (fun b o hb => e5 _ _ (ne_of_none hb hpH) (by rw [upd_ne (ne_of_none hb hpH)]; exact e04 _ _ hb)) (.int _)

abbrev sCheapest : Stmt := topS 39
abbrev nCheapest : List Str := ["house", "costs", "rows", "known", "rooms", "level", "found", "best", "some", "room", "rest", "told"]
theorem sc_cheapest : FnScope nCheapest ["house", "costs"] (defScope sCheapest) := ⟨rfl, rfl, rfl, by decide +kernel, rfl, by decide +kernel, by decide +kernel⟩
def gCheapest : List PyData → PyData → Prop := fun as d => ∃ (n : Nat) (ds : List (Nat × Nat)) (cs : List (List Nat)), as = [dHouse n ds, dLay cs] ∧ HouseOk n ds ∧ n ≤ 6 ∧ CostsOk n cs ∧ d = dL (stateF n (chF (nearF n ds) cs n (List.range n) 0))
theorem ok_cheapest (D : DefAt K mg "cheapest" sCheapest ["house", "costs"]) (m2 : mg "tuple" = none) (m3 : mg "range" = none) (m4 : mg "sum" = none) (F1 : Has P w K mg base 4 "need_house" ["house"] (spD K gNeedHouse)) (F2 : Has P w K mg base 3 "need_costs" ["house", "costs"] (spD K gNeedCosts)) (F3 : Has P w K mg base 1 "near" ["house"] (spD K gNear))
    (F4 : Has P w K mg base 9 "least_from" ["rows", "rooms", "level", "costs", "known"] (spLeast P w K 6)) (F5 : Has P w K mg base 2 "largest_in" ["rows", "rooms"] (spL K gLargestIn)) (F6 : Has P w K mg base 1 "cost_in" ["row", "number"] (spD K gCostIn)) : Has P w K mg base 10 "cheapest" ["house", "costs"] (spD K gCheapest) := by
  refine has_of D sc_cheapest (lenD fun ds d ⟨i, a, b, e, _⟩ => by rw [e]; rfl) fun f cdv A outer s H vs Q E hr h => ?_
  obtain ⟨as, d, hv, ⟨n, ds, cs, rfl, ok, n6, okc, rfl⟩, q⟩ := h
  obtain ⟨v0, v1, rfl, h0, h1⟩ := dps2 hv
  refine ⟨_, pss_cons (ps_expr (de_def F1 hr (by decide) rfl (da_cons (dv 0) da_nil))) (pss_cons (ps_expr (de_def F2 hr (by decide) rfl (da_cons (dv 0) (da_cons (dv 1) da_nil))))
    (pss_cons (ps_asg (pe_tup (pa_cons (de_def F3 hr (by decide) rfl (da_cons (dv 0) da_nil)) (pa_cons pe_mnew (pa_cons (de_tupR rfl rfl m2 rfl m3 (de_ix id_ix (dv 0) de_int)) (pa_cons pe_int (pa_cons (pe_op op_rep (pe_lst (pa_cons pe_int pa_nil)) (de_ix id_ix (dv 0) de_int)) pa_nil))))))
      (pg_tup rfl (pgs_cons (pg_name (i := 2) sc_cheapest.nd rfl (.inl rfl)) (pgs_cons (pg_name (i := 3) sc_cheapest.nd rfl (.inl rfl)) (pgs_cons (pg_name (i := 4) sc_cheapest.nd rfl (.inl rfl)) (pgs_cons (pg_name (i := 5) sc_cheapest.nd rfl (.inr rfl)) (pgs_cons (pg_name (i := 6) sc_cheapest.nd rfl (.inl rfl)) pgs_nil)))))))
    (pss_cons (ps_while PassesOwn.never (dt_cmp (od_ne hr.units) (dv 4) (de_tup da_nil) (nomark _))
      (pss_cons (ps_set (i := 7) sc_cheapest.nd rfl (.inl rfl) (pe_def F4 hr (Nat.le_refl _) rfl (pa_cons (pv 2) (pa_cons (pv 4) (pa_cons (pv 5) (pa_cons (pv 1) (pa_cons (pv 3) pa_nil)))))))
      (pss_cons (ps_for PassesOwn.never rfl (pi_list (dl_def F5 hr (show 2 ≤ 9 by omega) rfl (da_cons (dv 2) (da_cons (dv 4) da_nil)))) (pg_name (i := 8) sc_cheapest.nd rfl (.inr rfl))
          (pss_cons (ps_set (i := 10) sc_cheapest.nd rfl (.inl rfl) (de_ty cd_tuple rfl m2 bt_tuple (da_cons (de_lcT (x := "room") (j := 9) rfl sc_cheapest.nd rfl (dv 4) (blkOk_by (N := nCheapest) (sc := defScope sCheapest) (by decide +kernel)) (fun _ _ _ _ _ => pg_name (i := 9) sc_cheapest.nd rfl (.inl rfl))
            (fun _ _ _ _ _ => dts_one (dt_cmp od_notIn (dv 9) (dv 8) rfl)) (fun _ _ _ _ _ => dv 9)) da_nil)))
          (pss_cons (ps_set (i := 11) sc_cheapest.nd rfl (.inl rfl) (de_bi (cd_sum rfl) rfl m4 bb_sum (da_cons (de_lcT (x := "room") (j := 9) rfl sc_cheapest.nd rfl (dv 8) (blkOk_by (N := nCheapest) (sc := defScope sCheapest) (by decide +kernel)) (fun _ _ _ _ _ => pg_name (i := 9) sc_cheapest.nd rfl (.inl rfl)) (fun _ _ _ _ _ => dts_nil)
              (fun _ _ _ _ _ => de_def F6 hr (show 1 ≤ 9 by omega) rfl (da_cons (de_ix id_ix (dv 1) (dv 9)) (da_cons (dv 5) da_nil)))) da_nil)))
          (pss_one (ps_if (pt_cmpR (od_eq hr.units) (pe_op op_add (pv 11) (pe_def F4 hr (Nat.le_refl _) rfl (pa_cons (pv 2) (pa_cons (pv 10) (pa_cons (pe_op op_add (pv 5) pe_int) (pa_cons (pv 1) (pa_cons (pv 3) pa_nil))))))) (pv 7) rfl) (pss_one ps_break) pss_nil)))))
      (pss_cons (ps_for PassesOwn.never rfl (pi_tup (dv 8)) (pg_name (i := 9) sc_cheapest.nd rfl (.inl rfl)) (pss_one (ps_asg (pv 5) (pg_sub (pv 6) (pv 9) set_list))))
      (pss_one (ps_asg (pe_tup (pa_cons (pv 10) (pa_cons (pe_op op_add (pv 5) pe_int) pa_nil))) (pg_tup rfl (pgs_cons (pg_name (i := 4) sc_cheapest.nd rfl (.inl rfl)) (pgs_cons (pg_name (i := 5) sc_cheapest.nd rfl (.inr rfl)) pgs_nil)))))))))
    (pss_one (ps_ret (de_ty cd_tuple rfl m2 bt_tuple (da_cons (dv 6) da_nil))))))), ?_⟩
  have sd0 : SD K H (L2.start nCheapest [v0, v1]) [some (dHouse n ds), some (dLay cs)] := sd_cons h0 (sd_cons h1 sd_nil)
  have n1 := ok.n1
  have hb : RowsB n (nearF n ds) := nearB ok.lt' ok.lim
  generalize hrows : nearF n ds = rows at hb q
  refine drop_D sd0 ⟨_, ⟨_, _, rfl, rfl, rfl⟩, ⟨n, ds, rfl, ok, rfl⟩⟩ fun _ H1 e1 _ => ?_
  refine drop_D (sd0.ex e1) ⟨_, ⟨_, _, rfl, ⟨_, _, rfl, rfl, rfl⟩, rfl⟩, ⟨n, ds, cs, rfl, okc, by omega, rfl⟩⟩ fun _ H2 e2 _ => ?_
  refine ⟨_, _, sd0.ex (e1.trans e2), ⟨_, ⟨_, _, rfl, rfl, rfl⟩, ⟨n, ds, rfl, ok, rfl⟩⟩, fun v2 H3 e3 hv2 => fun d hd hsys => ?_⟩
  rw [hrows] at hv2
  have e03 : Ex H H3 := (e1.trans e2).trans e3
  have e34 : Ex H3 (upd H3 d (rawO P w d [])) := Evl.Ex.new hd
  have memo4 : Memo P w K (uP n) (rdC rows cs) (upd H3 d (rawO P w d [])) d := memo_new hsys upd_same
  refine ⟨_, _, sd0.ex (e03.trans e34), ⟨n, ⟨_, _, rfl, rfl, ⟨_, 0, .inr rfl, rfl, rfl⟩⟩, by omega, rfl⟩, fun v4 H5 e5 hv4 => ⟨by show 1 ≤ sizeLine; decide, fun p0 hp0 => ?_⟩⟩
  have e56 : Ex H5 (upd H5 p0 (.lst [.int 0])) := Evl.Ex.new hp0
  refine ⟨_, _, sd0.ex (((e03.trans e34).trans e5).trans e56), ⟨_, _, rfl, rfl, ⟨_, 0, .inr rfl, rfl, rfl⟩⟩, fun vn H7 e7 hvn => ⟨p0, (n : Int), [.int 0], rfl, dp_int hvn, e7 _ _ upd_same, by omega, by omega, ?_, fun p hp => ⟨by show 5 ≤ sizeLine; decide, fun T hT => ⟨T, _, rfl, .inl (.inl upd_same), rfl, _, _, rfl, _, _, rfl, _, _, rfl, _, _, rfl, _, _, rfl, rfl, ?_⟩⟩⟩⟩
  · rw [Int.toNat_natCast]
    exact sz_le (by simp; omega)
  have hrep : ∀ m : Nat, (List.replicate m [V.int 0]).flatten = (List.replicate m 0).map vN := by
    intro m
    rw [List.map_replicate]
    induction m with
    | zero => rfl
    | succ m ih => rw [List.replicate_succ, List.flatten_cons, List.replicate_succ, ih]; rfl
  rw [Int.toNat_natCast, hrep]
  have e78 : Ex H7 (upd H7 p (.lst ((List.replicate n 0).map vN))) := Evl.Ex.new hp
  have hp8 : (upd H7 p (.lst ((List.replicate n 0).map vN))) p = some (.lst ((List.replicate n 0).map vN)) := upd_same
  rw [Int.toNat_natCast, hrep] at hT
  generalize upd H7 p (.lst ((List.replicate n 0).map vN)) = H8 at e78 hp8 hT ⊢
  have e89 : Ex H8 (upd H8 T (.tup [v2, .ref d, v4, .int 0, .ref p])) := Evl.Ex.new hT
  generalize upd H8 T (.tup [v2, .ref d, v4, .int 0, .ref p]) = H9 at e89 ⊢
  have e49 : Ex (upd H3 d (rawO P w d [])) H9 := (((e5.trans e56).trans e7).trans e78).trans e89
  have e39 : Ex H3 H9 := e34.trans e49
  have h3p : H3 p = none := Evl.fresh_back (((e34.trans e5).trans e56).trans e7) hp
  let W : Nat → L2.St → Hp → Prop := fun m σ' H' => ∃ (dn : List (List Nat)) (rooms : List Nat) (k : Nat) (v4 : V) (y7 y8 y9 y10 y11 : Option V), σ' = [some v0, some v1, some v2, some (.ref d), some v4, some (vN dn.length), some (.ref p), y7, y8, y9, y10, y11] ∧ m = rooms.length ∧ rooms.Sublist (List.range n) ∧ dn.length + rooms.length ≤ n ∧
    rooms.length ≤ k ∧ k ≤ 6 ∧ dn ++ chF rows cs k rooms dn.length = chF rows cs n (List.range n) 0 ∧ Ex H3 H' ∧ Memo P w K (uP n) (rdC rows cs) H' d ∧ H' p = some (.lst ((dn.zipIdx.foldl (fun a p => setAll p.2 a p.1) (List.replicate n 0)).map vN)) ∧ Dp K H' v4 (dL rooms)
  refine ⟨W, ⟨n, [], List.range n, n, v4, none, none, none, none, none, rfl, by rw [List.length_range], List.Sublist.refl _, by rw [List.length_range, List.length_nil]; omega, by rw [List.length_range]; exact Nat.le_refl _, n6, rfl, e39, memo4.ex e49 (fun _ _ h => h), e89 _ _ hp8, dp_ex (((e56.trans e7).trans e78).trans e89) hv4⟩, ?_⟩
  rintro m σ' H' ⟨dn, rooms, k, v4', y7, y8, y9, y10, y11, rfl, rfl, hsub, hdl, hk, hk6, htot, eH, memo, hfp, hr4⟩
  refine ⟨_, _, (sd_skip (sd_skip (sd_skip (sd_skip (sd_cons hr4 sd_nil)))) : SD K H' _ [none, none, none, none, some (dL rooms)]), ⟨_, _, rfl, ⟨[], rfl, Nat.zero_le _, rfl⟩, gNe_dL rooms []⟩, fun Ha ea => ?_⟩
  by_cases hr0 : rooms = []
  · subst hr0
    dsimp only
    rw [if_neg (by simp)]
    have hch : chF rows cs k [] dn.length = [] := by
      cases k with
      | zero => rfl
      | succ k => rw [chF, if_pos rfl]
    rw [hch, List.append_nil] at htot
    have hfa := ea _ _ hfp
    refine ret_D (sd_skip (sd_skip (sd_skip (sd_skip (sd_skip (sd_skip (sd_cons (dp_lst_at hfa (dps_nats _)) sd_nil))))))) ⟨_, ⟨_, _, rfl, rfl, rfl⟩, ⟨_, rfl, rfl⟩⟩ fun v7 Hb eb hv7 => q v7 Hb ((e03.trans (eH.trans ea)).trans eb) ?_
    rw [← htot]
    exact hv7
  dsimp only
  rw [if_pos (by simp [hr0])]
  refine ⟨fun σ' H' => ∃ m', m' < rooms.length ∧ W m' σ' H', fun _ _ h => h, ?_⟩
  have hlt := sub_lt hsub
  have hrl : rooms.length ≤ 6 := by omega
  have e3a : Ex H3 Ha := eH.trans ea
  have memoa := memo.ex ea (fun _ _ h => h)
  -- best
  refine ⟨v2, rfl, v4', rfl, vN dn.length, rfl, v1, rfl, .ref d, rfl, d, v2, v4', v1, n, rows, rooms, dn.length, cs, rfl, dp_ex e3a hv2, dp_ex ea hr4, dp_ex (e03.trans e3a) h1, ⟨hb, by omega, hsub, hrl, by omega, okc⟩, memoa, fun Hb ebb memob => ?_⟩
  obtain ⟨φa, hφa⟩ := memoa.at_
  have hdp : d ≠ p := fun e => by
    subst e
    rw [ea _ _ hfp] at hφa
    cases hφa
  have keep3 : ∀ {G G' : Hp}, Ex H3 G → ExB d G G' → Ex H3 G' := fun {G G'} a e b o hbo => e _ _ (ne_of_none hbo hd) (a _ _ hbo)
  have e3b : Ex H3 Hb := keep3 e3a ebb
  have hr4b : Dp K Hb v4' (dL rooms) := dp_exB hφa ebb (dp_ex ea hr4)
  have hfb := ebb _ _ hdp.symm (ea _ _ hfp)
  generalize hns : (dn.zipIdx.foldl (fun a p => setAll p.2 a p.1) (List.replicate n 0)) = ns at hfb
  have hnsl : ns.length = n := by
    rw [← hns]
    exact stateF_len n dn
  -- for some in largest_in(rows, rooms)
  refine ⟨_, _, (sd_skip (sd_skip (sd_cons (dp_ex e3b hv2) (sd_skip (sd_cons hr4b sd_nil)))) : SD K Hb _ [none, none, some (dRows rows), none, some (dL rooms)]), ⟨_, ⟨_, _, rfl, ⟨_, _, rfl, rfl, rfl⟩, rfl⟩, ⟨n, rows, rooms, rfl, hb, hlt, hr0, by omega, rfl⟩⟩, fun qa acc Hc hqa ec hacc hda => ⟨qa, rfl, ⟨acc, .inl (.inl hacc)⟩, ?_⟩⟩
  have hφb := memob.at_.choose_spec
  have hqd : qa ≠ d := (ne_of_none hφb hqa).symm
  have hqp : qa ≠ p := (ne_of_none hfb hqa).symm
  have hlen : acc.length = (largestF rows rooms).length := by rw [dps_len hda, List.length_map]
  have e3c : Ex H3 Hc := e3b.trans ec
  have hfc := ec _ _ hfb
  have memoc := memob.ex ec (fun _ _ h => h)
  have hφc := memoc.at_.choose_spec
  refine for_list (xs := acc) (fun i σ' H' => ∃ y8 y9 y10 y11, σ' = [some v0, some v1, some v2, some (.ref d), some v4', some (vN dn.length), some (.ref p), some (vN (leastF rows cs 6 rooms dn.length)), y8, y9, y10, y11] ∧ ExB d Hc H' ∧ Memo P w K (uP n) (rdC rows cs) H' d ∧
      ∀ s ∈ (largestF rows rooms).take i, ¬ stepC cs dn.length s + leastF rows cs 6 (leftF rooms s) (dn.length + 1) = leastF rows cs 6 rooms dn.length)
    ⟨y8, y9, y10, y11, rfl, ExB.refl, memoc, fun s hs => by rw [List.take_zero] at hs; cases hs⟩ (fun i σ' H' _ ⟨_, _, _, _, _, eb, _⟩ => .inl (.inl (eb _ _ hqd hacc))) (fun i x σ' H' hx hpv => ?_) (fun σ' H' hpv => ?_)
  · obtain ⟨y8, y9, y10, y11, rfl, eb, memo', hno⟩ := hpv
    have hi : i < (largestF rows rooms).length := by rw [← hlen]; exact (List.getElem?_eq_some_iff.mp hx).1
    obtain ⟨dx, hdx, hpx⟩ := dps_get' hda hx
    have hsi : (largestF rows rooms)[i]? = some (largestF rows rooms)[i] := List.getElem?_eq_getElem hi
    rw [List.getElem?_map, hsi] at hdx
    cases hdx
    have hmem : (largestF rows rooms)[i] ∈ largestF rows rooms := List.getElem_mem hi
    generalize (largestF rows rooms)[i] = sm at hsi hpx hmem
    have hsub2 := largestF_sub hmem
    have hsl : sm.length ≤ 8 := Nat.le_trans hsub2.length_le (by omega)
    have hx1 : Dp K H' x (dL sm) := dp_exB hφc eb hpx
    have hr4' : Dp K H' v4' (dL rooms) := dp_exB hφc eb (dp_ex ec hr4b)
    have e3' : Ex H3 H' := keep3 e3c eb
    have hll := leftF_len hr0 hmem
    -- rest
    refine asg_D (sd_skip (sd_skip (sd_skip (sd_skip (sd_cons hr4' (sd_skip (sd_skip (sd_skip (sd_cons hx1 (sd_skip (sd_skip (sd_skip sd_nil)))))))))))) ⟨_, ⟨_, _, ⟨_, ⟨Nat, rooms, dN, fun r => !decide (r ∈ sm), dN, rfl, ⟨sz_le (by omega), fun r _ => ⟨_, _, rfl, rfl, gNotInN r sm⟩, fun r _ _ => ⟨rfl, rfl⟩⟩, rfl⟩, rfl⟩, rfl, rfl⟩, ⟨_, rfl, rfl⟩⟩ fun vr H5 e5 hvr => ?_
    have hvr : Dp K H5 vr (dL (leftF rooms sm)) := hvr
    -- told
    refine asg_D (sd_skip (sd_cons (dp_ex (e03.trans (e3'.trans e5)) h1) (sd_skip (sd_skip (sd_skip (sd_cons (.int _) (sd_skip (sd_skip (sd_cons (dp_ex e5 hx1) (sd_skip (sd_skip (sd_skip sd_nil)))))))))))) ⟨_, ⟨_, _, ⟨_, ⟨Nat, sm, dN, fun _ => true, fun r => dN (cinF (cs.getD r []) dn.length), rfl, ⟨sz_le (by omega), fun _ _ => rfl, fun r hr' _ => ⟨rfl, ?_⟩⟩, rfl⟩, rfl⟩, rfl, rfl⟩, gSum_map _ _⟩ fun v6 H6 e6 hv6 => ?_
    · have hrn := hlt r (hsub2.subset hr')
      refine ⟨_, ⟨_, _, ⟨_, _, rfl, rfl, ⟨_, r, .inr rfl, rfl, ?_⟩⟩, ⟨_, _, rfl, rfl, rfl⟩, rfl⟩, ⟨cs.getD r [], dn.length, rfl, (okc.at hrn).1, rfl⟩⟩
      rw [List.getElem?_map, List.getD_eq_getElem?_getD, List.getElem?_eq_getElem (by rw [okc.len]; exact hrn)]
      rfl
    obtain rfl := dp_int hv6
    have e36 : Ex H3 H6 := (e3'.trans e5).trans e6
    have memo6 := memo'.ex (e5.trans e6) (fun _ _ h => h)
    refine ⟨_, rfl, v2, rfl, vr, rfl, vN dn.length, rfl, dn.length, 1, rfl, rfl, v1, rfl, .ref d, rfl, d, v2, vr, v1, n, rows, leftF rooms sm, dn.length + 1, cs, rfl, dp_ex e36 hv2, dp_ex e6 hvr, dp_ex (e03.trans e36) h1, ⟨hb, by omega, (leftF_sub rooms sm).trans hsub, by omega, by omega, okc⟩, memo6, fun H7' e7' memo7 => ?_⟩
    have hstep : ((sm.map fun r => cinF (cs.getD r []) dn.length).sum : Int) + (leastF rows cs 6 (leftF rooms sm) (dn.length + 1) : Nat) = ((stepC cs dn.length sm + leastF rows cs 6 (leftF rooms sm) (dn.length + 1) : Nat) : Int) := by
      rw [Int.natCast_add]
      rfl
    have hge := gEq_nat (stepC cs dn.length sm + leastF rows cs 6 (leftF rooms sm) (dn.length + 1)) (leastF rows cs 6 rooms dn.length)
    rw [← show PyData.int (((sm.map fun r => cinF (cs.getD r []) dn.length).sum : Int) + (leastF rows cs 6 (leftF rooms sm) (dn.length + 1) : Nat)) = dN (stepC cs dn.length sm + leastF rows cs 6 (leftF rooms sm) (dn.length + 1)) from iE hstep] at hge
    refine ⟨_, _, rfl, rfl, _, rfl, _, _, _, .int _, .int _, hge, fun v10 H10 e10 hv10 => ⟨_, dp_bool hv10, ?_⟩⟩
    have hφ6 := memo6.at_.choose_spec
    have eb10 : ExB d Hc H10 := (((eb.trans (ExB.of e5)).trans (ExB.of e6)).trans e7').trans (ExB.of e10)
    have memo10 := memo7.ex e10 (fun _ _ h => h)
    by_cases hy : stepC cs dn.length sm + leastF rows cs 6 (leftF rooms sm) (dn.length + 1) = leastF rows cs 6 rooms dn.length
    · dsimp only
      rw [if_pos (decide_eq_true hy)]
      have hx10 : Dp K H10 x (dL sm) := dp_ex e10 (dp_exB hφ6 e7' (dp_ex (e5.trans e6) hx1))
      have hvr10 : Dp K H10 vr (dL (leftF rooms sm)) := dp_ex e10 (dp_exB hφ6 e7' (dp_ex e6 hvr))
      have hf10 := eb10 _ _ hdp.symm hfc
      have e310 : Ex H3 H10 := keep3 e3c eb10
      -- for room in some
      refine ⟨_, _, (sd_skip (sd_skip (sd_skip (sd_skip (sd_skip (sd_skip (sd_skip (sd_skip (sd_cons hx10 sd_nil)))))))) : SD K H10 _ [none, none, none, none, none, none, none, none, some (dL sm)]), rfl, fun v11 H11 e11 hv11 => ?_⟩
      obtain ⟨b, zs, rfl, hsz, hdz⟩ := dp_tuple hv11
      obtain rfl : zs = sm.map vN := nats_dps hdz
      have hf11 := e11 _ _ hf10
      have hvr11 := dp_ex e11 hvr10
      have memo11 := memo10.ex e11 (fun _ _ h => h)
      refine ⟨b, rfl, ⟨_, hsz⟩, for_tup (xs := sm.map vN) (fun j σ'' H'' => ∃ y9, σ'' = [some v0, some v1, some v2, some (.ref d), some v4', some (vN dn.length), some (.ref p), some (vN (leastF rows cs 6 rooms dn.length)), some x, y9, some vr, some (.int _)] ∧ ExB p H11 H'' ∧ H'' p = some (.lst ((setAll dn.length ns (sm.take j)).map vN)))
        ⟨y9, rfl, ExB.refl, hf11⟩ (fun j σ'' H'' _ ⟨_, _, e', _⟩ => extB hf11 e' _ _ hsz) (fun j r' σ'' H'' hr' hp2 => ?_) (fun σ'' H'' hp2 => ?_)⟩
      · obtain ⟨y9', rfl, eb2, hac2⟩ := hp2
        rw [List.getElem?_map] at hr'
        obtain ⟨r, hr2, rfl⟩ := Option.map_eq_some_iff.mp hr'
        have hrn := hlt r (hsub2.subset (List.mem_of_getElem? hr2))
        refine set_nat (K := K) (i := 6) (j := 9) (k := 5) rfl rfl rfl hac2 (by rw [setAll_len]; omega) ⟨some (vN r), rfl, eb2.trans ExB.upd, ?_⟩
        rw [upd_same]
        unfold setAll
        rw [take_fold (fun a r => a.set r dn.length) ns sm j r hr2]
      · obtain ⟨y9', rfl, eb2, hac2⟩ := hp2
        rw [List.length_map, List.take_length] at hac2
        refine ⟨vr, rfl, vN dn.length, rfl, dn.length, 1, rfl, rfl, by show 2 ≤ sizeLine; decide, fun T2 hT2 => ⟨T2, _, rfl, .inl (.inl upd_same), rfl, _, _, rfl, _, _, rfl, rfl, ?_⟩⟩
        have e12 : Ex H'' (upd H'' T2 (.tup [vr, .int ((dn.length : Int) + 1)])) := Evl.Ex.new hT2
        have hlv : vN (dn ++ [sm]).length = V.int ((dn.length : Int) + 1) := by
          rw [List.length_append]
          show V.int ((dn.length + 1 : Nat) : Int) = _
          rw [Int.natCast_add]
          rfl
        obtain ⟨k, rfl⟩ : ∃ k', k = k' + 1 := ⟨k - 1, by have := List.length_pos_iff.mpr hr0; omega⟩
        have hpick := pick_first rows cs k dn.length hr0 hk hk6 hsi hno hy
        refine ⟨(leftF rooms sm).length, hll, dn ++ [sm], leftF rooms sm, k, vr, some (vN (leastF rows cs 6 rooms dn.length)), some x, y9', some vr, some (vN (sm.map fun r => cinF (cs.getD r []) dn.length).sum), ?_, rfl, (leftF_sub rooms sm).trans hsub, ?_, by omega, by omega, ?_, ?_, ?_, ?_, ?_⟩
        · rw [hlv]
          rfl
        · rw [List.length_append]
          show dn.length + 1 + _ ≤ n
          omega
        · rw [← htot, chF, if_neg hr0, hpick, List.append_assoc, List.length_append]
          rfl
        · intro b' o hb'
          refine e12 _ _ (eb2 _ _ (ne_of_none hb' h3p) (e11 _ _ (e310 _ _ hb')))
        · refine (memo11.keep ?_ (extB hf11 eb2) (fun _ _ h => h)).ex e12 (fun _ _ h => h)
          have h11 := memo11.at_.choose_spec
          rw [h11]
          exact eb2 _ _ hdp h11
        · rw [e12 _ _ hac2, List.zipIdx_append, List.foldl_append, hns]
          show _ = some (HO.lst (List.map vN (setAll (0 + dn.length) ns sm)))
          rw [Nat.zero_add]
        · exact dp_ex e12 (dp_td (extB hf11 eb2) _ _ (noL_dL _) hvr11)
    · dsimp only
      rw [if_neg (fun e => hy (of_decide_eq_true e))]
      refine ⟨_, _, _, _, rfl, eb10, memo10, fun s hs => ?_⟩
      rw [List.take_add_one, hsi] at hs
      rcases List.mem_append.mp hs with hs | hs
      · exact hno s hs
      · have : s = sm := by simpa using hs
        subst this
        exact hy
  · obtain ⟨y8, y9, y10, y11, rfl, eb, memo', hno⟩ := hpv
    rw [hlen, List.take_length] at hno
    obtain ⟨⟨s, hs, es⟩, _⟩ := least_step rows cs 5 dn.length hr0
    have hll := leftF_len hr0 hs
    rw [leastF_any rows cs (show (leftF rooms s).length ≤ 5 by omega) (show (leftF rooms s).length ≤ 6 by omega)] at es
    exact absurd es.symm (hno s hs)
end
end Mx
/-! P7d: cheapest_below -/
namespace Mx
open PySem PySem.Spec PyProof.Rows L2
def minDs : List PyData → PyData
  | [] => .none
  | x :: xs => PySem.W.minD x xs
def dCR (c : Nat) (r : List Nat) : PyData := .tuple [dN c, dL r]
theorem alike_dCR (c c' : Nat) (r r' : List Nat) : PySem.W.alike (dCR c r) (dCR c' r') = true := by
  show PySem.W.alikeAll [dN c, dL r] [dN c', dL r'] = true
  simp only [PySem.W.alikeAll, PySem.W.alike, Bool.true_and, Bool.and_true]
  exact alike_dL r r'
theorem depthAll_le {m : Nat} : ∀ {ds : List PyData}, (∀ d ∈ ds, d.depth ≤ m) → PyData.depthAll ds ≤ m
  | [], _ => Nat.zero_le _
  | d :: ds, h => by
    rw [PyData.depthAll]
    exact Nat.max_le.mpr ⟨h d List.mem_cons_self, depthAll_le fun e he => h e (List.mem_cons_of_mem _ he)⟩
theorem gMin_of {ds : List PyData} (h0 : ds ≠ []) (ha : ∀ x ∈ ds, ∀ y ∈ ds, PySem.W.alike x y = true) (hn : ∀ x ∈ ds, x ≠ .none) (hd : ∀ d ∈ ds, d.depth ≤ 10) : gMin [.list ds] (minDs ds) := by
  cases ds with
  | nil => exact absurd rfl h0
  | cons x xs => exact ⟨x, xs, rfl, ⟨ha, hn⟩, by have := depthAll_le hd; omega, rfl⟩
theorem depth_dCR (c : Nat) (r : List Nat) : (dCR c r).depth ≤ 10 := by
  have := depth_nats r
  simp only [dCR, PyData.depth, PyData.depthAll]
  omega
theorem sortD_ne {l : List (List Nat)} (h : l ≠ []) : sortD dL l ≠ [] := by
  intro e
  have := sortD_len (enc := dL) (l := l)
  rw [e] at this
  exact h (List.length_eq_zero_iff.mp (by simpa using this.symm))
section
variable {P : Program} {w : World} {K : PySem.W.Frag} {mg : Str → Option Value} {base : Heap}
abbrev sCheapestBelow : Stmt := topS 40
abbrev nCheapestBelow : List Str := ["house", "state", "costs", "rest"]
theorem sc_cheapest_below : FnScope nCheapestBelow ["house", "state", "costs"] (defScope sCheapestBelow) := ⟨rfl, rfl, rfl, by decide +kernel, rfl, by decide +kernel, by decide +kernel⟩
def gCheapestBelow : List PyData → PyData → Prop := fun as d => ∃ (n : Nat) (ds : List (Nat × Nat)) (st : List Nat) (cs : List (List Nat)), as = [dHouse n ds, dL st, dLay cs] ∧ HouseOk n ds ∧ n ≤ 6 ∧ StOk n st ∧ Parted ds st ∧ CostsOk n cs ∧ underF n ds st ≠ [] ∧ d = minDs ((underF n ds st).map fun r => dCR (costF cs r) r)
theorem underF_mem {n : Nat} {ds : List (Nat × Nat)} {st r : List Nat} (h : r ∈ underF n ds st) : ∃ l ∈ belowF (nearF n ds) st n (List.range n) 0, r = stateF n l := by
  unfold underF at h
  rw [sortD_mem] at h
  obtain ⟨l, hl, rfl⟩ := List.mem_map.mp h
  exact ⟨l, hl, rfl⟩
theorem underF_len {n : Nat} {ds : List (Nat × Nat)} {st : List Nat} (n6 : n ≤ 6) : (underF n ds st).length ≤ sizeLine := by
  unfold underF
  rw [sortD_len, List.length_map]
  exact Nat.le_trans (belowF_len _ st n _ _ (by rw [List.length_range]; exact Nat.le_refl _)) (layB8 n6)
theorem ok_cheapest_below (D : DefAt K mg "cheapest_below" sCheapestBelow ["house", "state", "costs"]) (m1 : mg "min" = none) (F1 : Has P w K mg base 6 "need_parted" ["house", "state"] (spD K gNeedParted)) (F2 : Has P w K mg base 3 "need_costs" ["house", "costs"] (spD K gNeedCosts))
    (F3 : Has P w K mg base 10 "rests_under" ["house", "state"] (spL K gRestsUnder)) (F4 : Has P w K mg base 2 "cost_of" ["costs", "state"] (spD K gCostOf)) : Has P w K mg base 11 "cheapest_below" ["house", "state", "costs"] (spD K gCheapestBelow) := by
  refine has_of D sc_cheapest_below (lenD fun ds d ⟨i, a, b, c, e, _⟩ => by rw [e]; rfl) fun f cdv A outer s H vs Q E hr h => ?_
  obtain ⟨as, d, hv, ⟨n, ds, st, cs, rfl, ok, n6, okst, hpt, okc, hne, rfl⟩, q⟩ := h
  obtain ⟨v0, v1, v2, rfl, h0, h1, h2⟩ := dps3 hv
  refine ⟨_, pss_cons (ps_expr (de_def F1 hr (by decide) rfl (da_cons (dv 0) (da_cons (dv 1) da_nil)))) (pss_cons (ps_expr (de_def F2 hr (by decide) rfl (da_cons (dv 0) (da_cons (dv 2) da_nil))))
    (pss_one (ps_ret (de_bi (cd_min rfl hr.units) rfl m1 bb_min (da_cons (de_lc (x := "rest") (j := 3) rfl sc_cheapest_below.nd rfl (de_of_dl (dl_def F3 hr (Nat.le_refl _) rfl (da_cons (dv 0) (da_cons (dv 1) da_nil)))) (blkOk_by (N := nCheapestBelow) (sc := defScope sCheapestBelow) (by decide +kernel)) (fun _ _ _ _ _ => pg_name (i := 3) sc_cheapest_below.nd rfl (.inl rfl)) (fun _ _ _ _ _ => dts_nil)
      (fun _ _ _ _ _ => de_tup (da_cons (de_def F4 hr (by decide) rfl (da_cons (dv 2) (da_cons (dv 3) da_nil))) (da_cons (dv 3) da_nil)))) da_nil))))), ?_⟩
  have sd0 : SD K H (L2.start nCheapestBelow [v0, v1, v2]) [some (dHouse n ds), some (dL st), some (dLay cs), none] := sd_cons h0 (sd_cons h1 (sd_cons h2 (sd_skip sd_nil)))
  refine drop_D sd0 ⟨_, ⟨_, _, rfl, ⟨_, _, rfl, rfl, rfl⟩, rfl⟩, ⟨n, ds, st, rfl, ok, okst, hpt, rfl⟩⟩ fun _ H1 e1 _ => ?_
  refine drop_D (sd0.ex e1) ⟨_, ⟨_, _, rfl, ⟨_, _, rfl, rfl, rfl⟩, rfl⟩, ⟨n, ds, cs, rfl, okc, by omega, rfl⟩⟩ fun _ H2 e2 _ => ?_
  refine ret_D (sd0.ex (e1.trans e2)) ⟨_, ⟨_, _, ⟨_, ⟨List Nat, underF n ds st, dL, fun _ => true, fun r => dCR (costF cs r) r, ⟨_, ⟨_, ⟨_, _, rfl, ⟨_, _, rfl, rfl, rfl⟩, rfl⟩, ⟨n, ds, st, rfl, ok, n6, okst.len, rfl⟩⟩, rfl⟩, ⟨underF_len n6, fun _ _ => rfl, fun r hr' _ => ?_⟩, rfl⟩, rfl⟩, rfl, rfl⟩, ?_⟩ fun v H3 e3 hv => q v H3 ((e1.trans e2).trans e3) hv
  · obtain ⟨l, hl, rfl⟩ := underF_mem hr'
    refine ⟨?_, ⟨_, ⟨_, _, ⟨_, ⟨_, _, rfl, ⟨_, _, rfl, rfl, rfl⟩, rfl⟩, ⟨n, cs, stateF n l, rfl, okc, by omega, stateF_len n l, rfl⟩⟩, ⟨_, _, rfl, rfl, rfl⟩, rfl⟩, (by show 2 ≤ sizeLine; decide), rfl⟩⟩
    show (true && (noL (dL (stateF n l)) && true)) = true
    rw [noL_dL]
    rfl
  · rw [lcOut_all]
    refine gMin_of (fun e => hne (List.map_eq_nil_iff.mp e)) (fun x hx y hy => ?_) (fun x hx => ?_) (fun x hx => ?_)
    · obtain ⟨a, _, rfl⟩ := List.mem_map.mp hx
      obtain ⟨b, _, rfl⟩ := List.mem_map.mp hy
      exact alike_dCR _ _ _ _
    · obtain ⟨a, _, rfl⟩ := List.mem_map.mp hx
      exact fun h => nomatch h
    · obtain ⟨a, _, rfl⟩ := List.mem_map.mp hx
      exact depth_dCR _ _
end
end Mx
/-! P8: _law_taken, _law_pick -/
namespace Mx
open PySem PySem.Spec PyProof.Rows L2
/-- the script at S, seen from the row at R -/
def Scr (K : PySem.W.Frag) (H : Hp) (R S : Addr) : Prop := ∃ ns : List Int, (∀ H', SqL K H' S (ns.map V.int)) ∨ (S ≠ R ∧ Rd H S (.lst (ns.map V.int)))
theorem Scr.sql {K : PySem.W.Frag} {H : Hp} {R S : Addr} (h : Scr K H R S) : ∃ ns : List Int, SqL K H S (ns.map V.int) := by
  obtain ⟨ns, h | ⟨_, h⟩⟩ := h
  · exact ⟨ns, h H⟩
  · exact ⟨ns, .inl h⟩
theorem Scr.exb {K : PySem.W.Frag} {H H' : Hp} {R S : Addr} (h : Scr K H R S) (e : ExB R H H') : Scr K H' R S := by
  obtain ⟨ns, h | ⟨n, h | ⟨o, h⟩⟩⟩ := h
  · exact ⟨ns, .inl h⟩
  · exact ⟨ns, .inr ⟨n, .inl (e _ _ n h)⟩⟩
  · exact ⟨ns, .inr ⟨n, .inr ⟨o, e _ _ n h⟩⟩⟩
/-- the row at R that numbers are taken by -/
def RowV (H : Hp) (R S : Addr) : Prop := ∃ (k : Nat) (x y : Int), H R = some (.lst [.ref S, .int k, .int x, .int y])
def RowAt (K : PySem.W.Frag) (H : Hp) (R S : Addr) : Prop := Scr K H R S ∧ RowV H R S
section
variable {P : Program} {w : World} {K : PySem.W.Frag} {mg : Str → Option Value} {base : Heap}
abbrev sTaken : Stmt := topS 42
abbrev nTaken : List Str := ["_law_row", "_law_many", "_law_found", "_law_cell"]
theorem sc_taken : FnScope nTaken ["_law_row", "_law_many"] (defScope sTaken) := ⟨rfl, rfl, rfl, by decide +kernel, rfl, by decide +kernel, by decide +kernel⟩
/-- a number below j comes out; the row is changed and nothing else -/
def spTaken (K : PySem.W.Frag) : Sp := fun vs H Q _ => ∃ (R S : Addr) (j : Nat), vs = [.ref R, vN j] ∧ 0 < j ∧ j < 1000 ∧ RowAt K H R S ∧ ∀ t H', t < j → ExB R H H' → RowAt K H' R S → Q (vN t) H'
theorem ok_taken (D : DefAt K mg "_law_taken" sTaken ["_law_row", "_law_many"]) (m1 : mg "int" = none) (m2 : mg "len" = none) : Has P w K mg base 1 "_law_taken" ["_law_row", "_law_many"] (spTaken K) := by
  refine has_of D sc_taken (fun vs H Q E ⟨_, _, _, e, _⟩ => by rw [e]; rfl) fun f cdv A outer s H vs Q E hr h => ?_
  obtain ⟨R, S, j, rfl, j0, j1, ⟨hsc, k, x, y, hR⟩, q⟩ := h
  refine ⟨_, pss_cons (ps_if (pt_cmpR op_gt (pe_ix ix_list (pv 0) pe_int (fun _ _ => rfl)) pe_int (nomark _))
      (pss_cons (ps_set (i := 2) sc_taken.nd rfl (.inl rfl) (pe_op op_mod (pe_callTy call_int1 rfl m1 bt_int (pa_cons (pe_ix ix_list (pv 0) pe_int (fun _ _ => rfl)) pa_nil)) (pv 1)))
      (pss_cons (ps_asg (pe_op op_fdiv (pe_ix ix_list (pv 0) pe_int (fun _ _ => rfl)) (pv 1)) (pg_sub (pv 0) pe_int set_list))
      (pss_one (ps_ret (pv 2))))) pss_nil)
    (pss_cons (ps_asg (pe_op op_add (pe_ix ix_list (pv 0) pe_int (fun _ _ => rfl)) pe_int) (pg_sub (pv 0) pe_int set_list))
    (pss_cons (ps_if (pt_cmpR op_gt (pe_ix ix_list (pv 0) pe_int (fun _ _ => rfl)) (pe_callB call_len_seq rfl m2 bb_len (pa_cons (pe_ix ix_list (pv 0) pe_int (fun _ _ => rfl)) pa_nil)) (nomark _))
      (pss_cons (ps_asg (pe_op op_mod (pe_callTy call_int1 rfl m1 bt_int (pa_cons (pe_op op_add (pe_op op_mul (pe_ix ix_list (pv 0) pe_int (fun _ _ => rfl)) pe_int) pe_int) pa_nil)) pe_int) (pg_sub (pv 0) pe_int set_list))
      (pss_one (ps_ret (pe_op op_mod (pe_callTy call_int1 rfl m1 bt_int (pa_cons (pe_op op_fdiv (pe_ix ix_list (pv 0) pe_int (fun _ _ => rfl)) pe_int) pa_nil)) (pv 1))))) pss_nil)
    (pss_cons (ps_set (i := 3) sc_taken.nd rfl (.inl rfl) (pe_ix ix_list (pe_ix ix_list (pv 0) pe_int (fun _ _ => rfl)) (pe_op op_sub (pe_ix ix_list (pv 0) pe_int (fun _ _ => rfl)) pe_int) (fun _ _ => rfl)))
    (pss_cons (ps_asg (pe_op op_mod (pe_callTy call_int1 rfl m1 bt_int (pa_cons (pe_op op_add (pe_op op_add (pe_op op_mul (pe_ix ix_list (pv 0) pe_int (fun _ _ => rfl)) pe_int) (pv 3)) pe_int) pa_nil)) pe_int) (pg_sub (pv 0) pe_int set_list))
    (pss_cons (ps_if (pt_cmpR op_ge (pv 3) (pe_op op_pow pe_int pe_int) (nomark _))
      (pss_one (ps_asg (pe_op op_fdiv (pv 3) (pv 1)) (pg_sub (pv 0) pe_int set_list))) pss_nil)
    (pss_one (ps_ret (pe_op op_mod (pe_callTy call_int1 rfl m1 bt_int (pa_cons (pv 3) pa_nil)) (pv 1))))))))), ?_⟩
  have hj : (0 : Int) < (j : Int) := by omega
  have hdiv : CDiv 0 (j : Int) := ⟨hj, by omega⟩
  have modt : ∀ i : Int, V.int (i % (j : Int)) = vN (i % (j : Int)).toNat ∧ (i % (j : Int)).toNat < j := fun i => by
    have h1 := Int.emod_nonneg i (show (j : Int) ≠ 0 by omega)
    have h2 := Int.emod_lt_of_pos i hj
    refine ⟨?_, by omega⟩
    show V.int _ = V.int _
    congr 1
    omega
  -- the first test
  refine ⟨_, rfl, R, _, 3, _, rfl, rfl, .inl (.inl hR), rfl, _, _, rfl, rfl, _, rfl, ?_⟩
  dsimp only
  by_cases hy : (0 : Int) < y
  · rw [if_pos (decide_eq_true hy)]
    refine ⟨_, rfl, R, _, 3, _, rfl, rfl, .inl (.inl hR), rfl, .inl ⟨_, rfl, _, rfl, _, _, rfl, rfl, hj, ?_⟩⟩
    refine ⟨_, rfl, R, _, 3, _, rfl, rfl, .inl (.inl hR), rfl, _, rfl, _, _, rfl, rfl, hdiv, _, rfl, R, _, 3, 3, rfl, rfl, hR, rfl, ?_⟩
    obtain ⟨t1, t2⟩ := modt y
    refine ⟨_, rfl, ?_⟩
    dsimp only
    rw [t1]
    exact q _ _ t2 ExB.upd ⟨hsc.exb ExB.upd, k, x, _, upd_same⟩
  rw [if_neg (fun e => hy (of_decide_eq_true e))]
  -- one more taken
  refine ⟨_, rfl, R, _, 1, _, rfl, rfl, .inl (.inl hR), rfl, _, _, rfl, rfl, _, rfl, R, _, 1, 1, rfl, rfl, hR, rfl, ?_⟩
  have hR1 : (upd H R (.lst ([V.ref S, .int k, .int x, .int y].set 1 (.int ((k : Int) + 1))))) R = some (.lst [.ref S, .int (k + 1 : Nat), .int x, .int y]) := upd_same
  have eb1 : ExB R H (upd H R (.lst ([V.ref S, .int k, .int x, .int y].set 1 (.int ((k : Int) + 1))))) := ExB.upd
  generalize upd H R (.lst ([V.ref S, .int k, .int x, .int y].set 1 (.int ((k : Int) + 1)))) = H1 at hR1 eb1 ⊢
  have hsc1 := hsc.exb eb1
  obtain ⟨ns, hns1⟩ := hsc1.sql
  refine ⟨_, rfl, R, _, 1, _, rfl, rfl, .inl (.inl hR1), rfl, _, rfl, R, _, 0, _, rfl, rfl, .inl (.inl hR1), rfl, S, _, rfl, .inl hns1, _, _, rfl, rfl, _, rfl, ?_⟩
  dsimp only
  by_cases hk : ((ns.map V.int).length : Int) < ((k + 1 : Nat) : Int)
  · rw [if_pos (decide_eq_true hk)]
    refine ⟨_, rfl, R, _, 2, _, rfl, rfl, .inl (.inl hR1), rfl, _, _, rfl, rfl, .inr ⟨by decide, by decide⟩, _, _, rfl, rfl, .inl ⟨_, rfl, _, _, rfl, rfl, (by show (0 : Int) < 2147483647; decide), _, rfl, R, _, 2, 2, rfl, rfl, hR1, rfl, ?_⟩⟩
    refine ⟨_, rfl, R, _, 2, _, rfl, rfl, .inl (.inl upd_same), rfl, _, _, rfl, rfl, ⟨by decide, by decide⟩, .inl ⟨_, rfl, _, rfl, _, _, rfl, rfl, hj, ?_⟩⟩
    obtain ⟨t1, t2⟩ := modt ((x * 48271 + 11) % 2147483647 / 7)
    dsimp only
    rw [t1]
    exact q _ _ t2 (eb1.trans ExB.upd) ⟨hsc1.exb ExB.upd, _, _, _, upd_same⟩
  rw [if_neg (fun e => hk (of_decide_eq_true e))]
  have hkl : k < ns.length := by
    rw [List.length_map] at hk
    omega
  have hcell : atI (ns.map V.int) (((k + 1 : Nat) : Int) - 1) = some (.int ns[k]) := by
    rw [show (((k + 1 : Nat) : Int) - 1) = (k : Int) by omega]
    exact atI_nat (by rw [List.getElem?_map, List.getElem?_eq_getElem hkl]; rfl)
  generalize ns[k] = cell at hcell
  refine ⟨_, rfl, R, _, 0, _, rfl, rfl, .inl (.inl hR1), rfl, _, rfl, R, _, 1, _, rfl, rfl, .inl (.inl hR1), rfl, _, _, rfl, rfl, S, _, _, _, rfl, rfl, hns1, hcell, ?_⟩
  refine ⟨_, rfl, R, _, 2, _, rfl, rfl, .inl (.inl hR1), rfl, _, _, rfl, rfl, .inr ⟨by decide, by decide⟩, _, rfl, _, _, rfl, rfl, _, _, rfl, rfl, .inl ⟨_, rfl, _, _, rfl, rfl, (by show (0 : Int) < 2147483647; decide), _, rfl, R, _, 2, 2, rfl, rfl, hR1, rfl, ?_⟩⟩
  obtain ⟨t1, t2⟩ := modt cell
  refine ⟨_, rfl, _, _, rfl, rfl, ⟨by decide, by decide, by decide⟩, _, _, rfl, rfl, _, rfl, ?_⟩
  dsimp only
  by_cases hc : ((10 : Int) ^ (18 : Int).toNat) ≤ cell
  · rw [if_pos (decide_eq_true hc)]
    refine ⟨_, rfl, _, rfl, _, _, rfl, rfl, hdiv, _, rfl, R, _, 3, 3, rfl, rfl, upd_same, rfl, ?_⟩
    refine ⟨_, rfl, .inl ⟨_, rfl, _, rfl, _, _, rfl, rfl, hj, ?_⟩⟩
    dsimp only
    rw [t1]
    exact q _ _ t2 ((eb1.trans ExB.upd).trans ExB.upd) ⟨hsc1.exb (ExB.upd.trans ExB.upd), _, _, _, upd_same⟩
  · rw [if_neg (fun e => hc (of_decide_eq_true e))]
    refine ⟨_, rfl, .inl ⟨_, rfl, _, rfl, _, _, rfl, rfl, hj, ?_⟩⟩
    dsimp only
    rw [t1]
    exact q _ _ t2 (eb1.trans ExB.upd) ⟨hsc1.exb ExB.upd, _, _, _, upd_same⟩
end
end Mx
/-! P8b: _law_pick, _law_house -/
namespace Mx
open PySem PySem.Spec PyProof.Rows L2
theorem RowAt.ex {K : PySem.W.Frag} {H H' : Hp} {R S : Addr} (h : RowAt K H R S) (e : Ex H H') : RowAt K H' R S := by
  obtain ⟨a, k, x, y, c⟩ := h
  exact ⟨a.exb (ExB.of e), k, x, y, e _ _ c⟩
theorem RowV.upd {H : Hp} {R S D : Addr} {o : HO} (h : RowV H R S) (hD : D ≠ R) : RowV (upd H D o) R S := by
  obtain ⟨k, x, y, c⟩ := h
  exact ⟨k, x, y, by rw [upd_ne hD.symm]; exact c⟩
theorem RowV.ex {H H' : Hp} {R S : Addr} (h : RowV H R S) (e : Ex H H') : RowV H' R S := by
  obtain ⟨k, x, y, c⟩ := h
  exact ⟨k, x, y, e _ _ c⟩
theorem RowV.some {H : Hp} {R S : Addr} (h : RowV H R S) : ∃ xs, H R = some (.lst xs) := by
  obtain ⟨k, x, y, c⟩ := h
  exact ⟨_, c⟩
theorem RowV.ext {K : PySem.W.Frag} {H H' : Hp} {R S : Addr} (h : RowV H R S) (e : ExB R H H') : ExT K H H' := by
  obtain ⟨xs, c⟩ := h.some
  exact extB c e
/-- a list that is not the row is kept -/
theorem sql_row {K : PySem.W.Frag} {H H' : Hp} {R S a : Addr} {xs : List V} (hv : RowV H R S) (hx : ∀ (k : Nat) (x y : Int), xs ≠ [.ref S, .int k, .int x, .int y]) (e : ExB R H H') (h : SqL K H a xs) : SqL K H' a xs := by
  obtain ⟨k, x, y, c⟩ := hv
  rcases h with (h | ⟨o, h⟩) | h
  · refine .inl (.inl (e _ _ (fun ea => ?_) h))
    rw [ea, c] at h
    cases h
    exact hx k x y rfl
  · refine .inl (.inr ⟨o, e _ _ (fun ea => ?_) h⟩)
    rw [ea, c] at h
    cases h
  · exact .inr h
theorem nats_row {S : Addr} {ns : List Nat} (k : Nat) (x y : Int) : ns.map vN ≠ [.ref S, .int k, .int x, .int y] := fun e => by
  cases ns with
  | nil => cases e
  | cons n ns =>
    rw [List.map_cons] at e
    injection e with e _
    cases e
theorem rows_row {K : PySem.W.Frag} {H H' : Hp} {R S : Addr} {v : V} {rows : List (List Nat)} (hv : RowV H R S) (e : ExB R H H') (h : Dp K H v (dRows rows)) : Dp K H' v (dRows rows) := by
  obtain ⟨a, xs, rfl, hs, ha⟩ := dp_list h
  refine .lst (sql_row hv (fun k x y ex => ?_) e hs) ?_
  · subst ex
    cases rows with
    | nil => cases ha
    | cons r rows =>
      obtain ⟨v, t, e1, h1, h2⟩ := dps_cons ha
      cases e1
      cases rows with
      | nil => cases h2
      | cons r' rows =>
        obtain ⟨v, t, e1, h1, h2⟩ := dps_cons h2
        cases e1
        cases h1
  · clear h hs
    induction rows generalizing xs with
    | nil => cases ha; exact .nil
    | cons r rows ih =>
      obtain ⟨v, t, rfl, h1, h2⟩ := dps_cons ha
      obtain ⟨b, ys, rfl, hs, hd⟩ := dp_list h1
      obtain rfl : ys = r.map vN := nats_dps hd
      exact .cons (.lst (sql_row hv (fun k x y => nats_row k x y) e hs) (dps_nats _)) (ih t h2)
section
variable {P : Program} {w : World} {K : PySem.W.Frag} {mg : Str → Option Value} {base : Heap}
abbrev sPick : Stmt := topS 43
abbrev nPick : List Str := ["_law_row", "_law_things"]
theorem sc_pick : FnScope nPick ["_law_row", "_law_things"] (defScope sPick) := ⟨rfl, rfl, rfl, by decide +kernel, rfl, by decide +kernel, by decide +kernel⟩
def spPick (K : PySem.W.Frag) : Sp := fun vs H Q _ => ∃ (R S L : Addr) (ns : List Nat), vs = [.ref R, .ref L] ∧ ns ≠ [] ∧ ns.length < 1000 ∧ RowAt K H R S ∧ SqL K H L (ns.map vN) ∧ ∀ t H', t ∈ ns → ExB R H H' → RowAt K H' R S → Q (vN t) H'
theorem ok_pick (D : DefAt K mg "_law_pick" sPick ["_law_row", "_law_things"]) (m2 : mg "len" = none) (F1 : Has P w K mg base 1 "_law_taken" ["_law_row", "_law_many"] (spTaken K)) : Has P w K mg base 2 "_law_pick" ["_law_row", "_law_things"] (spPick K) := by
  refine has_of D sc_pick (fun vs H Q E ⟨_, _, _, _, e, _⟩ => by rw [e]; rfl) fun f cdv A outer s H vs Q E hr h => ?_
  obtain ⟨R, S, L, ns, rfl, h0, h1, hrow, hL, q⟩ := h
  have hpos := List.length_pos_iff.mpr h0
  refine ⟨_, pss_one (ps_ret (pe_ix ix_list (pv 1) (pe_def F1 hr (Nat.le_refl _) rfl (pa_cons (pv 0) (pa_cons (pe_callB call_len_seq rfl m2 bb_len (pa_cons (pv 1) pa_nil)) pa_nil))) (fun _ _ => rfl))), ?_⟩
  refine ⟨_, rfl, _, rfl, _, rfl, L, _, rfl, .inl hL, R, S, ns.length, ?_, hpos, h1, hrow, fun t H' ht e hrow' => ?_⟩
  · rw [List.length_map]
    rfl
  · refine ⟨L, _, (t : Int), vN ns[t], rfl, rfl, sql_row hrow.2 (fun k x y => nats_row k x y) e hL, atI_nat ?_, q _ H' (List.getElem_mem ht) e hrow'⟩
    rw [List.getElem?_map, List.getElem?_eq_getElem ht]
    rfl

abbrev sLawHouse : Stmt := topS 45
abbrev nLawHouse : List Str := ["_law_row", "_law_most", "_law_size", "_law_part", "_law_doors", "_law_one", "_law_other"]
theorem sc_law_house : FnScope nLawHouse ["_law_row", "_law_most"] (defScope sLawHouse) := ⟨rfl, rfl, rfl, by decide +kernel, rfl, by decide +kernel, by decide +kernel⟩
def spLawHouse (K : PySem.W.Frag) : Sp := fun vs H Q _ => ∃ (R S : Addr), vs = [.ref R, .int 6] ∧ RowAt K H R S ∧ ∀ n ds v H', HouseOk n ds → n ≤ 6 → ExB R H H' → RowAt K H' R S → Dp K H' v (dHouse n ds) → Q v H'
/-- doors so far: in order, all below (i, j) -/
structure DoorsTo (n i j : Nat) (ds : List (Nat × Nat)) : Prop where
  lt : ∀ p ∈ ds, p.1 < p.2 ∧ p.2 < n
  to : ∀ p ∈ ds, p.1 < i ∨ (p.1 = i ∧ p.2 < j)
  asc : ∀ (i : Nat) (p q : Nat × Nat), ds[i]? = some p → ds[i + 1]? = some q → p.1 < q.1 ∨ (p.1 = q.1 ∧ p.2 < q.2)
theorem DoorsTo.nil {n i j : Nat} : DoorsTo n i j [] := ⟨(fun _ h => nomatch h), (fun _ h => nomatch h), fun i p q h => by simp at h⟩
theorem DoorsTo.mono {n i j i' j' : Nat} {ds : List (Nat × Nat)} (h : DoorsTo n i j ds) (hh : i < i' ∨ (i = i' ∧ j ≤ j')) : DoorsTo n i' j' ds := ⟨h.lt, fun p hp => by have := h.to p hp; omega, h.asc⟩
theorem DoorsTo.snoc {n i j : Nat} {ds : List (Nat × Nat)} (h : DoorsTo n i j ds) (hij : i < j) (hj : j < n) : DoorsTo n i (j + 1) (ds ++ [(i, j)]) := by
  refine ⟨fun p hp => ?_, fun p hp => ?_, fun k p q h1 h2 => ?_⟩
  · rcases List.mem_append.mp hp with hp | hp
    · exact h.lt p hp
    · rw [List.mem_singleton] at hp
      subst hp
      exact ⟨hij, hj⟩
  · rcases List.mem_append.mp hp with hp | hp
    · have := h.to p hp
      omega
    · rw [List.mem_singleton] at hp
      subst hp
      exact .inr ⟨rfl, Nat.lt_succ_self j⟩
  · by_cases hk : k + 1 < ds.length
    · rw [List.getElem?_append_left (by omega)] at h1
      rw [List.getElem?_append_left hk] at h2
      exact h.asc k p q h1 h2
    · have hk2 : k + 1 = ds.length := by
        have := (List.getElem?_eq_some_iff.mp h2).1
        simp at this
        omega
      rw [List.getElem?_append_left (by omega)] at h1
      rw [List.getElem?_append_right (by omega), hk2] at h2
      simp at h2
      subst h2
      exact h.to p (List.mem_of_getElem? h1)
theorem ok_law_house (D : DefAt K mg "_law_house" sLawHouse ["_law_row", "_law_most"]) (m1 : mg "range" = none) (m2 : mg "tuple" = none) (F1 : Has P w K mg base 1 "_law_taken" ["_law_row", "_law_many"] (spTaken K)) : Has P w K mg base 2 "_law_house" ["_law_row", "_law_most"] (spLawHouse K) := by
  refine has_of D sc_law_house (fun vs H Q E ⟨_, _, e, _⟩ => by rw [e]; rfl) fun f cdv A outer s H vs Q E hr h => ?_
  obtain ⟨R, S, rfl, hrow, q⟩ := h
  refine ⟨_, pss_cons (ps_set (i := 2) sc_law_house.nd rfl (.inl rfl) (pe_op op_add pe_int (pe_def F1 hr (Nat.le_refl _) rfl (pa_cons (pv 0) (pa_cons (pv 1) pa_nil)))))
    (pss_cons (ps_par (i := 3) (j := 4) rfl sc_law_house.nd rfl rfl (by decide) rfl rfl (pa_cons (pe_op op_add pe_int (pe_def F1 hr (Nat.le_refl _) rfl (pa_cons (pv 0) (pa_cons pe_int pa_nil)))) (pa_cons (pe_lst pa_nil) pa_nil)) rfl)
    (pss_cons (ps_for PassesOwn.never rfl (pi_range1 rfl m1 (pa_cons (pv 2) pa_nil)) (pg_name (i := 5) sc_law_house.nd rfl (.inl rfl))
      (pss_one (ps_for PassesOwn.never rfl (pi_range2 rfl m1 (pa_cons (pe_op op_add (pv 5) pe_int) (pa_cons (pv 2) pa_nil))) (pg_name (i := 6) sc_law_house.nd rfl (.inl rfl))
        (pss_one (ps_if (pt_cmpR op_lt (pe_def F1 hr (Nat.le_refl _) rfl (pa_cons (pv 0) (pa_cons pe_int pa_nil))) (pv 3) (nomark _))
          (pss_one (ps_expr (pe_bm PySem.F.plainAttrs_list PySem.F.slot_list_append PySem.F.type_list_append mt_append (pv 4) (pa_cons (pe_tup (pa_cons (pv 5) (pa_cons (pv 6) pa_nil))) pa_nil)))) pss_nil)))))
    (pss_one (ps_ret (de_tup (da_cons (dv 2) (da_cons (de_ty cd_tuple rfl m2 bt_tuple (da_cons (dv 4) da_nil)) da_nil))))))), ?_⟩
  -- the size
  refine ⟨_, rfl, _, rfl, R, S, 6, rfl, by omega, by omega, hrow, fun t H1 ht e1 hrow1 => ⟨_, _, rfl, rfl, ?_⟩⟩
  have hn : V.int (1 + (t : Int)) = vN (t + 1) := by
    show V.int _ = V.int ((t + 1 : Nat) : Int)
    congr 1
    omega
  dsimp only
  rw [hn]
  generalize hnt : t + 1 = n
  have n1 : 1 ≤ n := by omega
  have n6 : n ≤ 6 := by omega
  -- the part, the doors
  refine ⟨_, rfl, R, S, 4, rfl, by omega, by omega, hrow1, fun t2 H2 ht2 e2 hrow2 => ⟨_, _, rfl, rfl, Nat.zero_le _, fun D hD => ⟨_, _, rfl, ?_⟩⟩⟩
  obtain ⟨hsc2, hv2⟩ := hrow2
  have hDR : D ≠ R := by
    obtain ⟨xs, hx⟩ := hv2.some
    exact (ne_of_none hx hD).symm
  have hv3 : RowV (upd H2 D (.lst [])) R S := hv2.upd hDR
  have e3 : Ex H2 (upd H2 D (.lst [])) := Evl.Ex.new hD
  have hD3 : (upd H2 D (.lst [])) D = some (.lst []) := upd_same
  generalize upd H2 D (.lst []) = H3 at hv3 e3 hD3 ⊢
  refine ⟨_, rfl, (n : Int), rfl, by omega, by omega, ?_⟩
  rw [Int.toNat_natCast]
  refine for_range (lo := 0) (n := n) (fun i σ' H' => ∃ y5 y6 ds acc, σ' = [some (.ref R), some (.int 6), some (vN n), some (.int _), some (.ref D), y5, y6] ∧ ExB R H2 H' ∧ RowV H' R S ∧ H' D = some (.lst acc) ∧ DpAll K H' acc (ds.map dPair) ∧ DoorsTo n i 0 ds ∧ ds.length ≤ 5 * i ∧ ds.length ≤ 25)
    ⟨none, none, [], [], rfl, ExB.of e3, hv3, hD3, .nil, DoorsTo.nil, Nat.zero_le _, Nat.zero_le _⟩ (fun i σ' H' hi hpv => ?_) (fun σ' H' hpv => ?_)
  · obtain ⟨y5, y6, ds, acc, rfl, eb, hv, hDa, hda, hto, hl1, hl2⟩ := hpv
    have hz : V.int (0 + (i : Int)) = vN i := by
      show V.int _ = V.int _
      rw [Int.zero_add]
    show tFor _ _ _ _ _ _
    rw [hz]
    refine ⟨_, rfl, _, _, rfl, rfl, _, rfl, (i : Int) + 1, (n : Int), rfl, ⟨by omega, by omega, by omega, by omega⟩, ?_⟩
    have hcnt : ((n : Int) - ((i : Int) + 1)).toNat = n - (i + 1) := by omega
    rw [hcnt]
    refine for_range (lo := (i : Int) + 1) (n := n - (i + 1)) (fun m σ' H' => ∃ y6 ds acc, σ' = [some (.ref R), some (.int 6), some (vN n), some (.int _), some (.ref D), some (vN i), y6] ∧ ExB R H2 H' ∧ RowV H' R S ∧ H' D = some (.lst acc) ∧ DpAll K H' acc (ds.map dPair) ∧ DoorsTo n i (i + 1 + m) ds ∧ ds.length ≤ 5 * i + m ∧ ds.length ≤ 25 + m)
      ⟨y6, ds, acc, rfl, eb, hv, hDa, hda, hto.mono (.inr ⟨rfl, by omega⟩), by omega, by omega⟩ (fun m σ' H' hm hpv2 => ?_) (fun σ' H' hpv2 => ?_)
    · obtain ⟨y6, ds, acc, rfl, eb, hv, hDa, hda, hto, hl1, hl2⟩ := hpv2
      have hz2 : V.int ((i : Int) + 1 + (m : Int)) = vN (i + 1 + m) := by
        exact congrArg V.int (by omega)
      show tIfS _ _ _ _ _ _
      rw [hz2]
      refine ⟨_, rfl, R, S, 5, rfl, by omega, by omega, ⟨hsc2.exb eb, hv⟩, fun t3 H5 ht3 e5 hrow5 => ⟨_, rfl, _, _, rfl, rfl, _, rfl, ?_⟩⟩
      have hDa5 : H5 D = some (.lst acc) := e5 _ _ hDR hDa
      have hda5 : DpAll K H5 acc (ds.map dPair) := dps_td (hv.ext e5) _ _ (noL_pairs ds) hda
      have hlen := dps_len hda5
      rw [List.length_map] at hlen
      dsimp only
      split
      · refine ⟨_, rfl, .inl ⟨rfl, _, .inl (.inl hDa5)⟩, _, rfl, _, rfl, by show 2 ≤ sizeLine; decide, fun T hT => ⟨D, acc, .ref T, rfl, rfl, ?_, small1000 (by omega), ?_⟩⟩
        · rw [upd_ne (ne_of_none hDa5 hT)]
          exact hDa5
        · have eT : Ex H5 (upd H5 T (.tup [vN i, vN (i + 1 + m)])) := Evl.Ex.new hT
          have hTt : (upd H5 T (.tup [vN i, vN (i + 1 + m)])) T = some (.tup [vN i, vN (i + 1 + m)]) := upd_same
          have hTD : D ≠ T := ne_of_none hDa5 hT
          refine ⟨_, ds ++ [(i, i + 1 + m)], _, rfl, ?_, (hrow5.2.ex eT).upd hDR, upd_same, ?_, hto.snoc (by omega) (by omega), by rw [List.length_append, List.length_singleton]; omega, by rw [List.length_append, List.length_singleton]; omega⟩
          · intro b o hbR hb
            have hbD : b ≠ D := ne_of_none hb hD
            rw [upd_ne hbD]
            exact eT _ _ (e5 _ _ hbR (eb _ _ hbR hb))
          · rw [List.map_append]
            refine dps_td (ext_upd (eT _ _ hDa5)) _ _ ?_ (dps_app (dps_ex eT hda5) (dps_one (dp_tup_at hTt (.cons (.int _) (.cons (.int _) .nil)))))
            rw [← List.map_append]
            exact noL_pairs _
      · exact ⟨_, ds, acc, rfl, eb.trans e5, hrow5.2, hDa5, hda5, hto.mono (.inr ⟨rfl, by omega⟩), by omega, by omega⟩
    · obtain ⟨y6, ds, acc, rfl, eb, hv, hDa, hda, hto, hl1, hl2⟩ := hpv2
      exact ⟨_, _, ds, acc, rfl, eb, hv, hDa, hda, hto.mono (.inl (by omega)), by omega, by omega⟩
  · obtain ⟨y5, y6, ds, acc, rfl, eb, hv, hDa, hda, hto, hl1, hl2⟩ := hpv
    refine ret_D (d := dHouse n ds) (sd_skip (sd_skip (sd_cons (.int _) (sd_skip (sd_cons (dp_lst_at hDa hda) sd_nil))))) ⟨_, ⟨_, _, rfl, ⟨_, _, ⟨_, ⟨_, _, rfl, rfl, rfl⟩, ⟨_, rfl, rfl⟩⟩, rfl, rfl⟩, rfl⟩, (by show 2 ≤ sizeLine; decide), rfl⟩ fun v H9 e9 hv9 => ?_
    exact q n ds v H9 ⟨n1, by omega, by omega, hto.lt, hto.asc⟩ n6 (((e1.trans e2).trans eb).trans (ExB.of e9)) ⟨(hsc2.exb eb).exb (ExB.of e9), hv.ex e9⟩ hv9
end
end Mx
/-! P8c: _law_parted -/
namespace Mx
open PySem PySem.Spec PyProof.Rows L2
theorem rawB {n : Nat} {ds : List (Nat × Nat)} (h1 : ∀ p ∈ ds, p.1 < n ∧ p.2 < n) (h2 : ds.length ≤ 28) : RowsB n (rawNear n ds) ∧ ∀ i, ((rawNear n ds).getD i []).length ≤ 56 := by
  have hl : (rawNear n ds).length = n := by unfold rawNear; rw [raw_len, List.length_replicate]
  have hle : ∀ i, ((rawNear n ds).getD i []).length ≤ 56 := fun i => by
    have := raw_le n ds (List.replicate n []) 0 (by rw [List.length_replicate]) h1 (fun j => by
      rw [List.getD_eq_getElem?_getD, List.getElem?_replicate]
      split <;> simp) i
    show ((ds.foldl growF (List.replicate n [])).getD i []).length ≤ 56
    omega
  refine ⟨⟨hl, fun r hr => ?_⟩, hle⟩
  obtain ⟨i, hi⟩ := List.getElem?_of_mem hr
  have := hle i
  rw [List.getD_eq_getElem?_getD, hi] at this
  have this : r.length ≤ 56 := this
  omega
theorem raw_adj {n : Nat} {ds : List (Nat × Nat)} (h1 : ∀ p ∈ ds, p.1 < n ∧ p.2 < n) (i j : Nat) : j ∈ (rawNear n ds).getD i [] ↔ Adj ds i j := by
  unfold rawNear
  rw [raw_mem n ds _ i j (by rw [List.length_replicate]) h1, List.getD_eq_getElem?_getD, List.getElem?_replicate]
  constructor
  · rintro (h | h)
    · split at h <;> simp at h
    · exact h
  · exact .inr
/-- the numbers of the neighbors before room i -/
def tkn (n : Nat) (ds : List (Nat × Nat)) (st : List Nat) (i : Nat) : List Nat := (((rawNear n ds).getD i []).filter fun o => decide (o < i)).map fun o => st.getD o 0
def fitF (T : List Nat) : List Nat := (List.range (3 + T.length)).filter fun x => !decide (x ∈ T)
theorem fit_ne (T : List Nat) : fitF T ≠ [] := by
  intro e
  have hall : ∀ x ∈ List.range (3 + T.length), x ∈ T := fun x hx => by
    by_cases h : x ∈ T
    · exact h
    · have : x ∈ fitF T := List.mem_filter.mpr ⟨hx, by simp [h]⟩
      rw [e] at this
      cases this
  have := nodup_len List.nodup_range hall
  rw [List.length_range] at this
  omega
structure PartTo (n : Nat) (ds : List (Nat × Nat)) (i : Nat) (st : List Nat) : Prop where
  len : st.length = n
  le : ∀ x ∈ st, x ≤ 60
  dif : ∀ q ∈ ds, q.2 < i → st.getD q.1 0 ≠ st.getD q.2 0
theorem PartTo.step {n : Nat} {ds : List (Nat × Nat)} {i x : Nat} {st : List Nat} (h : PartTo n ds i st) (ok : HouseOk n ds) (hi : i < n) (hx : x ∈ fitF (tkn n ds st i)) : PartTo n ds (i + 1) (st.set i x) := by
  obtain ⟨hx1, hx2⟩ := List.mem_filter.mp hx
  rw [List.mem_range] at hx1
  have hx2 : x ∉ tkn n ds st i := by simpa using hx2
  have hT : (tkn n ds st i).length ≤ 56 := by
    unfold tkn
    rw [List.length_map]
    exact Nat.le_trans (List.length_filter_le _ _) ((rawB ok.lt' ok.lim).2 i)
  refine ⟨by rw [List.length_set]; exact h.len, fun y hy => ?_, fun q hq hq2 => ?_⟩
  · rcases List.mem_or_eq_of_mem_set hy with hy | hy
    · exact h.le y hy
    · omega
  · have hlt := ok.lt q hq
    have hl := h.len
    have h1 : (st.set i x).getD q.1 0 = st.getD q.1 0 := by
      rw [List.getD_eq_getElem?_getD, List.getElem?_set_ne (by omega), List.getD_eq_getElem?_getD]
    rw [h1]
    by_cases e : q.2 = i
    · have h2 : (st.set i x).getD q.2 0 = x := by
        rw [e, List.getD_eq_getElem?_getD, List.getElem?_set_self (by omega)]
        rfl
      rw [h2]
      intro ex
      refine hx2 ?_
      rw [← ex]
      unfold tkn
      refine List.mem_map.mpr ⟨q.1, List.mem_filter.mpr ⟨(raw_adj ok.lt' i q.1).mpr (.inr (by rw [← e]; exact hq)), decide_eq_true (by omega)⟩, rfl⟩
    · have h2 : (st.set i x).getD q.2 0 = st.getD q.2 0 := by
        rw [List.getD_eq_getElem?_getD, List.getElem?_set_ne (by omega), List.getD_eq_getElem?_getD]
      rw [h2]
      exact h.dif q hq (by omega)
section
variable {P : Program} {w : World} {K : PySem.W.Frag} {mg : Str → Option Value} {base : Heap}
abbrev sLawParted : Stmt := topS 47
abbrev nLawParted : List Str := ["_law_row", "_law_house_here", "_law_top", "_law_rows", "_law_state", "_law_room", "_law_taken_here", "_law_fit", "_law_other", "_law_number"]
theorem sc_law_parted : FnScope nLawParted ["_law_row", "_law_house_here", "_law_top"] (defScope sLawParted) := ⟨rfl, rfl, rfl, by decide +kernel, rfl, by decide +kernel, by decide +kernel⟩
def spLawParted (K : PySem.W.Frag) : Sp := fun vs H Q _ => ∃ (R S : Addr) (vh : V) (n : Nat) (ds : List (Nat × Nat)), vs = [.ref R, vh, .int 2] ∧ RowAt K H R S ∧ Dp K H vh (dHouse n ds) ∧ HouseOk n ds ∧ n ≤ 6 ∧ ∀ st v H', StOk n st → Parted ds st → ExB R H H' → RowAt K H' R S → Dp K H' v (dL st) → Q v H'
theorem ok_law_parted (D : DefAt K mg "_law_parted" sLawParted ["_law_row", "_law_house_here", "_law_top"]) (m1 : mg "range" = none) (m2 : mg "tuple" = none) (m3 : mg "len" = none) (F1 : Has P w K mg base 1 "_law_near" ["_law_house_here"] (spD K gLawNear)) (F2 : Has P w K mg base 2 "_law_pick" ["_law_row", "_law_things"] (spPick K)) :
    Has P w K mg base 3 "_law_parted" ["_law_row", "_law_house_here", "_law_top"] (spLawParted K) := by
  refine has_of D sc_law_parted (fun vs H Q E ⟨_, _, _, _, _, e, _⟩ => by rw [e]; rfl) fun f cdv A outer s H vs Q E hr h => ?_
  obtain ⟨R, S, vh, n, ds, rfl, hrow, hh, ok, n6, q⟩ := h
  refine ⟨_, pss_cons (ps_asg (pe_tup (pa_cons (de_def F1 hr (by decide) rfl (da_cons (dv 1) da_nil)) (pa_cons (pe_op op_rep (pe_lst (pa_cons pe_int pa_nil)) (de_ix id_ix (dv 1) de_int)) pa_nil)))
      (pg_tup rfl (pgs_cons (pg_name (i := 3) sc_law_parted.nd rfl (.inl rfl)) (pgs_cons (pg_name (i := 4) sc_law_parted.nd rfl (.inr rfl)) pgs_nil))))
    (pss_cons (ps_for PassesOwn.never rfl (pi_range1 rfl m1 (da_cons (de_ix id_ix (dv 1) de_int) da_nil)) (pg_name (i := 5) sc_law_parted.nd rfl (.inr rfl))
      (pss_cons (ps_set (i := 6) sc_law_parted.nd rfl (.inr rfl) (de_lc (x := "_law_other") (j := 8) rfl sc_law_parted.nd rfl (de_ix id_ix (dv 3) (dv 5)) (blkOk_by (N := nLawParted) (sc := defScope sLawParted) (by decide +kernel)) (fun _ _ _ _ _ => pg_name (i := 8) sc_law_parted.nd rfl (.inl rfl))
          (fun _ _ _ _ _ => dts_one (dt_cmp od_lt (dv 8) (dv 5) (nomark _))) (fun _ _ _ _ _ => de_ix id_ix (dv 4) (dv 8))))
      (pss_cons (ds_lcR (x := "_law_number") (j := 9) (i := 7) rfl sc_law_parted.nd rfl rfl rfl rfl rfl m1 (de_op od_add (de_op od_add (dv 2) de_int) (de_bi cd_len rfl m3 bb_len (da_cons (dv 6) da_nil))) (blkOk_by (N := nLawParted) (sc := defScope sLawParted) (by decide +kernel)) (fun _ _ _ _ _ => pg_name (i := 9) sc_law_parted.nd rfl (.inl rfl))
          (fun _ _ _ _ _ => dts_one (dt_cmp od_notIn (dv 9) (dv 6) rfl)) (fun _ _ _ _ _ => dv 9))
      (pss_one (ps_asg (pe_def F2 hr (Nat.le_refl _) rfl (pa_cons (pv 0) (pa_cons (pv 7) pa_nil))) (pg_sub (pv 4) (pv 5) set_list))))))
    (pss_one (ps_ret (de_ty cd_tuple rfl m2 bt_tuple (da_cons (dv 4) da_nil))))), ?_⟩
  have sd0 : SD K H (L2.start nLawParted [V.ref R, vh, .int 2]) [none, some (dHouse n ds)] := sd_skip (sd_cons hh sd_nil)
  have n1 := ok.n1
  obtain ⟨hB, hB2⟩ := rawB ok.lt' ok.lim
  refine ⟨_, _, sd0, ⟨_, ⟨_, _, rfl, rfl, rfl⟩, ⟨n, ds, rfl, ok, rfl⟩⟩, fun v3 H3 e3 hv3 => ⟨by show 1 ≤ sizeLine; decide, fun p0 hp0 => ?_⟩⟩
  have e34 : Ex H3 (upd H3 p0 (.lst [.int 0])) := Evl.Ex.new hp0
  refine ⟨_, _, sd0.ex (e3.trans e34), ⟨_, _, rfl, rfl, ⟨_, 0, .inr rfl, rfl, rfl⟩⟩, fun vn H5 e5 hvn => ⟨p0, (n : Int), [.int 0], rfl, dp_int hvn, e5 _ _ upd_same, by omega, by omega, ?_, fun p hp => ⟨by show 2 ≤ sizeLine; decide, fun T hT => ⟨T, _, rfl, .inl (.inl upd_same), rfl, _, _, rfl, _, _, rfl, rfl, ?_⟩⟩⟩⟩
  · rw [Int.toNat_natCast]
    exact sz_le (by simp; omega)
  have hrep : ∀ m : Nat, (List.replicate m [V.int 0]).flatten = (List.replicate m 0).map vN := by
    intro m
    rw [List.map_replicate]
    induction m with
    | zero => rfl
    | succ m ih => rw [List.replicate_succ, List.flatten_cons, List.replicate_succ, ih]; rfl
  rw [Int.toNat_natCast, hrep] at hT ⊢
  have e56 : Ex H5 (upd H5 p (.lst ((List.replicate n 0).map vN))) := Evl.Ex.new hp
  have hp6 : (upd H5 p (.lst ((List.replicate n 0).map vN))) p = some (.lst ((List.replicate n 0).map vN)) := upd_same
  generalize upd H5 p (.lst ((List.replicate n 0).map vN)) = H6 at e56 hp6 hT ⊢
  have e67 : Ex H6 (upd H6 T (.tup [v3, .ref p])) := Evl.Ex.new hT
  have hp7 := e67 _ _ hp6
  generalize upd H6 T (.tup [v3, .ref p]) = H7 at e67 hp7 ⊢
  have e37 : Ex H3 H7 := ((e34.trans e5).trans e56).trans e67
  have h3p : H3 p = none := Evl.fresh_back (e34.trans e5) hp
  have hrow3 := hrow.ex e3
  obtain ⟨hsc3, hv3r⟩ := hrow3
  have hpR : p ≠ R := by
    obtain ⟨xs, hx⟩ := hv3r.some
    exact (ne_of_none hx h3p).symm
  have sdh : SD K H7 [some (V.ref R), some vh] [none, some (dHouse n ds)] := sd_skip (sd_cons (dp_ex (e3.trans e37) hh) sd_nil)
  refine ⟨_, _, (sd_skip (sd_cons (dp_ex (e3.trans e37) hh) sd_nil) : SD K H7 _ [none, some (dHouse n ds)]), ⟨_, _, ⟨_, _, rfl, rfl, ⟨_, 0, .inr rfl, rfl, rfl⟩⟩, rfl, rfl⟩, fun vs8 H8 e8 hvs8 => ?_⟩
  obtain ⟨vn8, rfl, hvn8⟩ := dps1 hvs8
  obtain rfl := dp_int hvn8
  refine ⟨(n : Int), rfl, by omega, by omega, ?_⟩
  rw [Int.toNat_natCast]
  have hp8 := e8 _ _ hp7
  have e38 : Ex H3 H8 := e37.trans e8
  refine for_range (lo := 0) (n := n) (fun i σ' H' => ∃ y5 y6 y7 st, σ' = [some (.ref R), some vh, some (.int 2), some v3, some (.ref p), y5, y6, y7, none, none] ∧ ExB R H3 H' ∧ RowV H' R S ∧ H' p = some (.lst (st.map vN)) ∧ PartTo n ds i st)
    ⟨none, none, none, _, rfl, ExB.of e38, hv3r.ex e38, hp8, ⟨by rw [List.length_replicate], fun x hx => by rw [(List.mem_replicate.mp hx).2]; omega, fun _ _ h => absurd h (Nat.not_lt_zero _)⟩⟩ (fun i σ' H' hi hpv => ?_) (fun σ' H' hpv => ?_)
  · obtain ⟨y5, y6, y7, st, rfl, eb, hv, hst, hpt⟩ := hpv
    have hz : V.int (0 + (i : Int)) = vN i := by
      show V.int _ = V.int _
      rw [Int.zero_add]
    have hlen := hpt.len
    have hv3' : Dp K H' v3 (dRows (rawNear n ds)) := rows_row hv3r eb hv3
    show tSeq _ _ _ _ _
    rw [hz]
    refine asg_D (sd_skip (sd_skip (sd_skip (sd_cons hv3' (sd_cons (dp_lst_at hst (dps_nats _)) (sd_cons (.int _) (sd_skip (sd_skip (sd_skip (sd_skip sd_nil)))))))))) ⟨_, ⟨Nat, (rawNear n ds).getD i [], dN, fun o => decide (o < i), fun o => dN (st.getD o 0), ⟨_, _, rfl, rfl, gIx_rows hB hi⟩, ⟨sz_le (hB.get i), fun o _ => ⟨_, _, rfl, rfl, gLt_nat o i⟩, fun o _ ho => ⟨rfl, ⟨_, _, rfl, rfl, ⟨_, o, .inl rfl, rfl, getN (by have := of_decide_eq_true ho; omega)⟩⟩⟩⟩, rfl⟩, rfl⟩ fun v6 Ha ea hv6 => ?_
    have hv6 : Dp K Ha v6 (.list ((tkn n ds st i).map dN)) := by
      unfold tkn
      rw [List.map_map]
      exact hv6
    have hT : (tkn n ds st i).length ≤ 56 := by
      unfold tkn
      rw [List.length_map]
      exact Nat.le_trans (List.length_filter_le _ _) (hB2 i)
    generalize hTk : tkn n ds st i = Tk at hv6 hT
    refine asg_D (sd_skip (sd_skip (sd_cons (.int 2) (sd_skip (sd_skip (sd_skip (sd_cons hv6 (sd_skip (sd_skip (sd_skip sd_nil)))))))))) ⟨_, ⟨3 + Tk.length, fun x => !decide (x ∈ Tk), fun x => dN x, ⟨_, _, ⟨_, _, rfl, rfl, ⟨_, _, rfl, rfl, rfl⟩⟩, ⟨_, ⟨_, _, rfl, rfl, rfl⟩, ⟨Tk.map dN, .inl rfl, rfl⟩⟩, ⟨_, _, rfl, rfl, iE (by rw [List.length_map]; show ((3 + Tk.length : Nat) : Int) = 2 + 1 + (Tk.length : Int); omega)⟩⟩, ⟨sz_le (by rw [List.length_range]; omega), fun x _ => ⟨_, _, rfl, rfl, gNotInNL x Tk⟩, fun x _ _ => ⟨rfl, rfl⟩⟩, rfl⟩, rfl⟩ fun v7 Hb eb' hv7 => ?_
    have hv7 : Dp K Hb v7 (.list ((fitF Tk).map dN)) := hv7
    obtain ⟨L, xs, rfl, hLs, hLd⟩ := dp_list hv7
    obtain rfl : xs = (fitF Tk).map vN := nats_dps hLd
    have hfl : (fitF Tk).length < 1000 := by
      have := List.length_filter_le (fun x => !decide (x ∈ Tk)) (List.range (3 + Tk.length))
      rw [List.length_range] at this
      show (List.filter _ _).length < 1000
      omega
    have eab : Ex H' Hb := ea.trans eb'
    refine ⟨_, rfl, _, rfl, R, S, L, fitF Tk, rfl, fit_ne Tk, hfl, ⟨hsc3.exb (eb.trans (ExB.of eab)), hv.ex eab⟩, hLs, fun t Hc ht ec hrowc => ?_⟩
    have hst' := ec _ _ hpR (eab _ _ hst)
    refine ⟨_, rfl, vN i, rfl, p, st.map vN, (i : Int), i, rfl, rfl, hst', ?_, ?_⟩
    · rw [List.length_map]
      exact Evl.ixN_nat (by omega)
    · refine ⟨_, _, _, st.set i t, rfl, ?_, hrowc.2.upd hpR, by rw [upd_same, List.map_set], hpt.step ok hi (by rw [hTk]; exact ht)⟩
      intro b o hbR hb
      rw [upd_ne (ne_of_none hb h3p)]
      exact ec _ _ hbR (eab _ _ (eb _ _ hbR hb))
  · obtain ⟨y5, y6, y7, st, rfl, eb, hv, hst, hpt⟩ := hpv
    refine ret_D (sd_skip (sd_skip (sd_skip (sd_skip (sd_cons (dp_lst_at hst (dps_nats _)) sd_nil))))) ⟨_, ⟨_, _, rfl, rfl, rfl⟩, ⟨_, rfl, rfl⟩⟩ fun v9 H9 e9 hv9 => ?_
    exact q st v9 H9 ⟨hpt.len, hpt.le⟩ (fun p hp => hpt.dif p hp (ok.lt' p hp).2) (((ExB.of e3).trans eb).trans (ExB.of e9)) ⟨(hsc3.exb eb).exb (ExB.of e9), hv.ex e9⟩ hv9
end
end Mx
/-! P8d: _law_cost, _law_alike -/
namespace Mx
open PySem PySem.Spec PyProof.Rows L2
def lawC (cs : List (List Nat)) (st : List Nat) : Nat := ((List.range st.length).map fun r => cinF (cs.getD r []) (st.getD r 0)).sum
theorem lawC_eq {n : Nat} {cs : List (List Nat)} {st : List Nat} (h1 : cs.length = n) (h2 : st.length = n) : lawC cs st = costF cs st := by
  unfold lawC costF
  congr 1
  apply List.ext_getElem
  · rw [List.length_map, List.length_map, List.length_range, List.length_zip]
    omega
  · intro i hi1 hi2
    rw [List.length_map, List.length_range] at hi1
    rw [List.getElem_map, List.getElem_map, List.getElem_range, List.getElem_zip, List.getD_eq_getElem?_getD, List.getD_eq_getElem?_getD, List.getElem?_eq_getElem (by omega), List.getElem?_eq_getElem (by omega)]
    rfl
section
variable {P : Program} {w : World} {K : PySem.W.Frag} {mg : Str → Option Value} {base : Heap}
abbrev sLawCost : Stmt := topS 48
abbrev nLawCost : List Str := ["_law_costs", "_law_rest", "_law_room"]
theorem sc_law_cost : FnScope nLawCost ["_law_costs", "_law_rest"] (defScope sLawCost) := ⟨rfl, rfl, rfl, by decide +kernel, rfl, by decide +kernel, by decide +kernel⟩
def gLawCost : List PyData → PyData → Prop := fun as d => ∃ (n : Nat) (cs : List (List Nat)) (st : List Nat), as = [dLay cs, dL st] ∧ CostsOk n cs ∧ n ≤ 8 ∧ st.length = n ∧ d = dN (costF cs st)
theorem gIx_lay {cs : List (List Nat)} {r : Nat} (h : r < cs.length) : gIx (dLay cs) (dN r) (dL (cs.getD r [])) := ⟨_, r, .inr rfl, rfl, by
  rw [List.getElem?_map, List.getD_eq_getElem?_getD, List.getElem?_eq_getElem h]
  rfl⟩
theorem ok_law_cost (D : DefAt K mg "_law_cost" sLawCost ["_law_costs", "_law_rest"]) (m1 : mg "sum" = none) (m2 : mg "min" = none) (m3 : mg "len" = none) (m4 : mg "range" = none) : Has P w K mg base 1 "_law_cost" ["_law_costs", "_law_rest"] (spD K gLawCost) := by
  refine has_of D sc_law_cost (lenD fun ds d ⟨i, a, b, e, _⟩ => by rw [e]; rfl) fun f cdv A outer s H vs Q E hr h => ?_
  obtain ⟨as, d, hv, ⟨n, cs, st, rfl, ok, n8, hst, rfl⟩, q⟩ := h
  obtain ⟨v1, v2, rfl, h1, h2⟩ := dps2 hv
  refine ⟨_, pss_one (ps_ret (de_bi (cd_sum rfl) rfl m1 bb_sum (da_cons (de_lcR (x := "_law_room") (j := 2) rfl sc_law_cost.nd rfl rfl m4 (de_bi cd_len rfl m3 bb_len (da_cons (dv 1) da_nil)) (blkOk_by (N := nLawCost) (sc := defScope sLawCost) (by decide +kernel)) (fun _ _ _ _ _ => pg_name (i := 2) sc_law_cost.nd rfl (.inl rfl)) (fun _ _ _ _ _ => dts_nil)
    (fun _ _ _ _ _ => de_ix id_ix (de_ix id_ix (dv 0) (dv 2)) (de_bi (cd_min2 rfl) rfl m2 bb_min (da_cons (de_ix id_ix (dv 1) (dv 2)) (da_cons (de_op od_sub (de_bi cd_len rfl m3 bb_len (da_cons (de_ix id_ix (dv 0) (dv 2)) da_nil)) de_int) da_nil))))) da_nil))), ?_⟩
  have hl := ok.len
  have hsum := gSum_map (fun r => cinF (cs.getD r []) (st.getD r 0)) (List.range st.length)
  rw [← lawC_eq hl hst] at q
  refine ret_D (sd_cons h1 (sd_cons h2 (sd_skip sd_nil))) ⟨_, ⟨_, _, ⟨_, ⟨st.length, fun _ => true, fun r => dN (cinF (cs.getD r []) (st.getD r 0)), ⟨_, ⟨_, _, rfl, rfl, rfl⟩, ⟨st.map dN, .inr rfl, iE (by rw [List.length_map])⟩⟩, ⟨sz_le (by rw [List.length_range]; omega), fun _ _ => rfl, fun r hr' _ => ⟨rfl, ?_⟩⟩, rfl⟩, rfl⟩, rfl, rfl⟩, hsum⟩ q
  rw [List.mem_range] at hr'
  obtain ⟨hr1, hr2⟩ := ok.at (show r < n by omega)
  refine ⟨_, dN (min (st.getD r 0) ((cs.getD r []).length - 1)), ⟨_, _, rfl, rfl, gIx_lay (by omega)⟩, ⟨_, ⟨_, _, ⟨_, _, rfl, rfl, gIx_T hr'⟩, ⟨_, _, ⟨_, _, ⟨_, ⟨_, _, ⟨_, _, rfl, rfl, gIx_lay (by omega)⟩, rfl, rfl⟩, ⟨(cs.getD r []).map dN, .inr rfl, rfl⟩⟩, rfl, ⟨_, _, rfl, rfl, rfl⟩⟩, rfl, rfl⟩, rfl⟩, ?_⟩, gIx_T (by omega)⟩
  have := gMin_nat (st.getD r 0) ((cs.getD r []).length - 1)
  rw [List.length_map]
  have e : ((((cs.getD r []).length - 1 : Nat) : Int)) = ((cs.getD r []).length : Int) - 1 := by omega
  rw [show dN ((cs.getD r []).length - 1) = .int (((cs.getD r []).length : Int) - 1) from iE e] at this
  exact this

/-- an int, or a tuple of such, m deep -/
def AlD : Nat → PyData → Prop
  | 0, d => ∃ i, d = .int i
  | m + 1, d => (∃ i, d = .int i) ∨ ∃ ds : List PyData, d = .tuple ds ∧ ds.length ≤ 1000 ∧ ∀ x ∈ ds, AlD m x
abbrev sAlike : Stmt := topS 44
abbrev nAlike : List Str := ["_law_found", "_law_due", "_law_k"]
theorem sc_alike : FnScope nAlike ["_law_found", "_law_due"] (defScope sAlike) := ⟨rfl, rfl, rfl, by decide +kernel, rfl, by decide +kernel, by decide +kernel⟩
def gAlike (m : Nat) : List PyData → PyData → Prop := fun as d => ∃ x, as = [x, x] ∧ AlD m x ∧ d = .bool true
theorem gNe_int (a : Int) : gNe (.int a) (.int a) (.bool false) := ⟨by rfl, by rfl, by simp [PyData.eqv]⟩
theorem gEq_bool (a : Bool) : gEq (.bool a) (.bool a) (.bool true) := ⟨by rfl, by rfl, by cases a <;> simp [PyData.eqv]⟩
theorem gNe_bool (a : Bool) : gNe (.bool a) (.bool a) (.bool false) := ⟨by rfl, by rfl, by cases a <;> simp [PyData.eqv]⟩
theorem gEq_nil : gEq (.list []) (.list []) (.bool true) := ⟨by decide, by decide, by simp [PyData.eqv, PyData.eqvAll]⟩
theorem ok_alike (D : DefAt K mg "_law_alike" sAlike ["_law_found", "_law_due"]) (mi : mg "isinstance" = none) (mt : mg "tuple" = none) (ml : mg "list" = none) (mn : mg "len" = none) (mr : mg "range" = none) (ms : mg "str" = none) (mI : mg "int" = none) (mb : mg "bool" = none) :
    ∀ m, Has P w K mg base (1 + m) "_law_alike" ["_law_found", "_law_due"] (spD K (gAlike m)) := by
  intro m
  induction m with
  | zero =>
    refine has_of D sc_alike (lenD fun ds d ⟨i, e, _⟩ => by rw [e]; rfl) fun f cdv A outer s H vs Q E hr h => ?_
    obtain ⟨as, d, hv, ⟨x, rfl, ⟨i, rfl⟩, rfl⟩, q⟩ := h
    obtain ⟨v1, v2, rfl, h1, h2⟩ := dps2 hv
    refine ⟨_, pss_cons (ps_if (dt_val (de_isi2 (T := "tuple") (U := "list") rfl mi (dv 1) rfl mt bt_tuple rfl ml bt_list boot_isinstance)) pss_never pss_nil)
      (pss_cons (ps_if (PW.pt (dw_or (dt_cmp od_isN (dv 1) de_none (nomark _)) (dw_or1 (dt_val (de_isi (T := "str") rfl mi (dv 1) rfl ms bt_str boot_isinstance))))) (pss_one ps_never) pss_nil)
      (pss_one (ps_ret (de_and (de_isi (T := "int") rfl mi (dv 0) rfl mI bt_int boot_isinstance) (de_and (de_cmp (od_eq hr.units) (de_isi (T := "bool") rfl mi (dv 0) rfl mb bt_bool boot_isinstance) (de_isi (T := "bool") rfl mi (dv 1) rfl mb bt_bool boot_isinstance) (nomark _)) (pe_one (de_cmp (od_eq hr.units) (dv 0) (dv 1) (nomark _)))))))), ?_⟩
    have sd0 : SD K H (L2.start nAlike [v1, v2]) [some (.int i), some (.int i)] := sd_cons h1 (sd_cons h2 sd_nil)
    refine if_D false sd0 ⟨_, _, _, rfl, kit_it, kit_il, rfl⟩ (fun h => nomatch h) (fun _ H1 e1 => ?_)
    refine if_D false (sd0.ex e1) ⟨false, ⟨_, _, rfl, rfl, rfl, rfl⟩, ⟨_, _, rfl, kit_is, rfl⟩⟩ (fun h => nomatch h) (fun _ H2 e2 => ?_)
    exact ret_D (sd0.ex (e1.trans e2)) ⟨true, ⟨_, _, rfl, kit_ii, rfl⟩, ⟨true, ⟨_, _, ⟨_, _, rfl, kit_ib, rfl⟩, ⟨_, _, rfl, kit_ib, rfl⟩, gEq_bool false⟩, ⟨_, _, rfl, rfl, gEq_intT rfl⟩⟩⟩ fun v H3 e3 hv => q v H3 ((e1.trans e2).trans e3) hv
  | succ m ih =>
    refine has_of D sc_alike (lenD fun ds d ⟨i, e, _⟩ => by rw [e]; rfl) fun f cdv A outer s H vs Q E hr h => ?_
    obtain ⟨as, d, hv, ⟨x, rfl, hx, rfl⟩, q⟩ := h
    obtain ⟨v1, v2, rfl, h1, h2⟩ := dps2 hv
    refine ⟨_, pss_cons (ps_if (dt_val (de_isi2 (T := "tuple") (U := "list") rfl mi (dv 1) rfl mt bt_tuple rfl ml bt_list boot_isinstance))
        (pss_cons (ps_if (PW.pt (dw_or (dt_not (dt_val (de_isi2 (T := "tuple") (U := "list") rfl mi (dv 0) rfl mt bt_tuple rfl ml bt_list boot_isinstance))) (dw_or1 (dt_cmp (od_ne hr.units) (de_isi (T := "list") rfl mi (dv 0) rfl ml bt_list boot_isinstance) (de_isi (T := "list") rfl mi (dv 1) rfl ml bt_list boot_isinstance) (nomark _))))) (pss_one ps_never) pss_nil)
        (pss_cons (ps_if (dt_cmp (od_ne hr.units) (de_bi cd_len rfl mn bb_len (da_cons (dv 0) da_nil)) (de_bi cd_len rfl mn bb_len (da_cons (dv 1) da_nil)) (nomark _)) (pss_one ps_never) pss_nil)
        (pss_one (ps_ret (de_cmp (od_eq hr.units) (de_lcR (x := "_law_k") (j := 2) rfl sc_alike.nd rfl rfl mr (de_bi cd_len rfl mn bb_len (da_cons (dv 1) da_nil)) (blkOk_by (N := nAlike) (sc := defScope sAlike) (by decide +kernel)) (fun _ _ _ _ _ => pg_name (i := 2) sc_alike.nd rfl (.inl rfl))
          (fun _ _ _ _ _ => dts_one (dt_not (dt_val (de_def ih hr (Nat.le_refl _) rfl (da_cons (de_ix id_ix (dv 0) (dv 2)) (da_cons (de_ix id_ix (dv 1) (dv 2)) da_nil)))))) (fun _ _ _ _ _ => dv 2)) (de_lst da_nil) (nomark _)))))) pss_nil)
      (pss_cons (ps_if (PW.pt (dw_or (dt_cmp od_isN (dv 1) de_none (nomark _)) (dw_or1 (dt_val (de_isi (T := "str") rfl mi (dv 1) rfl ms bt_str boot_isinstance))))) (pss_one ps_never) pss_nil)
      (pss_one (ps_ret (de_and (de_isi (T := "int") rfl mi (dv 0) rfl mI bt_int boot_isinstance) (de_and (de_cmp (od_eq hr.units) (de_isi (T := "bool") rfl mi (dv 0) rfl mb bt_bool boot_isinstance) (de_isi (T := "bool") rfl mi (dv 1) rfl mb bt_bool boot_isinstance) (nomark _)) (pe_one (de_cmp (od_eq hr.units) (dv 0) (dv 1) (nomark _)))))))), ?_⟩
    have sd0 : SD K H (L2.start nAlike [v1, v2]) [some x, some x, none] := sd_cons h1 (sd_cons h2 (sd_skip sd_nil))
    rcases hx with ⟨i, rfl⟩ | ⟨ds, rfl, hl, hds⟩
    · refine if_D false sd0 ⟨_, _, _, rfl, kit_it, kit_il, rfl⟩ (fun h => nomatch h) (fun _ H1 e1 => ?_)
      refine if_D false (sd0.ex e1) ⟨false, ⟨_, _, rfl, rfl, rfl, rfl⟩, ⟨_, _, rfl, kit_is, rfl⟩⟩ (fun h => nomatch h) (fun _ H2 e2 => ?_)
      exact ret_D (sd0.ex (e1.trans e2)) ⟨true, ⟨_, _, rfl, kit_ii, rfl⟩, ⟨true, ⟨_, _, ⟨_, _, rfl, kit_ib, rfl⟩, ⟨_, _, rfl, kit_ib, rfl⟩, gEq_bool false⟩, ⟨_, _, rfl, rfl, gEq_intT rfl⟩⟩⟩ fun v H3 e3 hv => q v H3 ((e1.trans e2).trans e3) hv
    · refine if_D true sd0 ⟨_, _, _, rfl, kit_tt, kit_tl, rfl⟩ (fun _ H1 e1 => ?_) (fun h => nomatch h)
      refine if_D false (sd0.ex e1) ⟨false, ⟨true, ⟨_, _, _, rfl, kit_tt, kit_tl, rfl⟩, rfl⟩, ⟨_, _, ⟨_, _, rfl, kit_tl, rfl⟩, ⟨_, _, rfl, kit_tl, rfl⟩, gNe_bool false⟩⟩ (fun h => nomatch h) (fun _ H2 e2 => ?_)
      refine if_D false (sd0.ex (e1.trans e2)) ⟨_, _, ⟨_, ⟨_, _, rfl, rfl, rfl⟩, ⟨ds, .inr rfl, rfl⟩⟩, ⟨_, ⟨_, _, rfl, rfl, rfl⟩, ⟨ds, .inr rfl, rfl⟩⟩, gNe_int _⟩ (fun h => nomatch h) (fun _ H3 e3 => ?_)
      have hno : lcOut (List.range ds.length) (fun _ => false) (fun i => PyData.int (i : Int)) = [] := lcOut_none _ _
      refine ret_D (sd0.ex ((e1.trans e2).trans e3)) ⟨.list [], .list [], ⟨_, ⟨ds.length, fun _ => false, fun i => .int (i : Int), ⟨_, ⟨_, _, rfl, rfl, rfl⟩, ⟨ds, .inr rfl, rfl⟩⟩, ⟨sz_le (by rw [List.length_range]; exact hl), fun k hk => ?_, fun _ _ h => nomatch h⟩, rfl⟩, by rw [hno]⟩, ⟨[], rfl, Nat.zero_le _, rfl⟩, gEq_nil⟩ fun v H4 e4 hv => q v H4 (((e1.trans e2).trans e3).trans e4) hv
      rw [List.mem_range] at hk
      have hget : ds[k]? = some ds[k] := List.getElem?_eq_getElem hk
      exact ⟨true, ⟨_, ⟨_, _, ⟨_, _, rfl, rfl, ⟨_, k, .inr rfl, rfl, hget⟩⟩, ⟨_, _, ⟨_, _, rfl, rfl, ⟨_, k, .inr rfl, rfl, hget⟩⟩, rfl, rfl⟩, rfl⟩, ⟨_, rfl, hds _ (List.getElem_mem hk), rfl⟩⟩, rfl⟩
end
end Mx
/-! Md: the plain laws. -/
namespace Mx
open PySem PySem.Spec PyProof.Rows L2
/-! ### the least of a list -/
theorem foldl_min : ∀ (ns : List Nat) (b : Nat), ∃ m : Nat, (ns.map fun n : Nat => (n : Int)).foldl min (b : Int) = (m : Int) ∧ (m = b ∨ m ∈ ns) ∧ m ≤ b ∧ ∀ x ∈ ns, m ≤ x
  | [], b => ⟨b, rfl, .inl rfl, Nat.le_refl _, (fun _ h => nomatch h)⟩
  | n :: ns, b => by
    obtain ⟨m, h1, h2, h3, h4⟩ := foldl_min ns (min b n)
    refine ⟨m, ?_, ?_, by omega, ?_⟩
    · rw [List.map_cons, List.foldl_cons, ← h1]
      congr 1
      omega
    · rcases h2 with h2 | h2
      · by_cases h : b ≤ n
        · exact .inl (by omega)
        · exact .inr (by rw [h2, show min b n = n by omega]; exact List.mem_cons_self)
      · exact .inr (List.mem_cons_of_mem _ h2)
    · intro x hx
      rcases List.mem_cons.mp hx with rfl | hx
      · omega
      · exact h4 x hx
theorem minDs_nats {ns : List Nat} {m : Nat} (h1 : m ∈ ns) (h2 : ∀ x ∈ ns, m ≤ x) : minDs (ns.map dN) = dN m := by
  cases ns with
  | nil => cases h1
  | cons b ns =>
    show PySem.W.minD (.int (b : Int)) (ns.map dN) = _
    have e : ns.map dN = (ns.map fun n : Nat => (n : Int)).map PyData.int := by rw [List.map_map]; rfl
    rw [e, PySem.W.minD_ints]
    obtain ⟨m', e1, e2, e3, e4⟩ := foldl_min ns b
    rw [e1]
    have : m' = m := by
      refine Nat.le_antisymm ?_ ?_
      · rcases List.mem_cons.mp h1 with rfl | h1
        · exact e3
        · exact e4 m h1
      · rcases e2 with rfl | e2
        · exact h2 _ List.mem_cons_self
        · exact h2 m' (List.mem_cons_of_mem _ e2)
    rw [this]
theorem lt_dCR (c c' : Nat) (r r' : List Nat) : PySem.W.dataLt (dCR c r) (dCR c' r') = if c = c' then PySem.W.dataLt (dL r) (dL r') else decide (c < c') := by
  unfold dCR
  rw [PySem.W.dataLt_pair (by rfl) (alike_dL r r')]
  by_cases h : c = c'
  · subst h
    rw [if_pos (by simp [PyData.eqv]), if_pos rfl, eqv_dL]
    by_cases e : r = r'
    · subst e
      rw [decide_eq_true rfl, if_pos rfl, PySem.W.dataLt_self]
    · rw [decide_eq_false e, if_neg Bool.false_ne_true]
  · have h' : ¬ ((c : Int) = (c' : Int)) := by omega
    rw [if_neg (by simp [PyData.eqv, h']), if_neg h, PySem.W.dataLt_int]
    exact decide_eq_decide.mpr (by omega)
def stepD (a y : PyData) : PyData := if PySem.W.dataLt y a then y else a
theorem minD_step (x : PyData) (xs : List PyData) : PySem.W.minD x xs = xs.foldl stepD x := rfl
theorem fpos {cost : List Nat → Nat} {m : Nat} {a : List Nat} {l : List (List Nat)} (h : cost a = m) : (a :: l).filter (fun r => decide (cost r = m)) = a :: l.filter fun r => decide (cost r = m) := List.filter_cons_of_pos (p := fun r => decide (cost r = m)) (decide_eq_true h)
theorem fneg {cost : List Nat → Nat} {m : Nat} {a : List Nat} {l : List (List Nat)} (h : ¬ cost a = m) : (a :: l).filter (fun r => decide (cost r = m)) = l.filter fun r => decide (cost r = m) := List.filter_cons_of_neg (p := fun r => decide (cost r = m)) (by simpa using h)
/-- the least pair: the least cost, with the least row of that cost -/
theorem min_pairs (cost : List Nat → Nat) : ∀ (xs : List (List Nat)) (r0 : List Nat), ∃ m, (m = cost r0 ∨ ∃ x ∈ xs, m = cost x) ∧ m ≤ cost r0 ∧ (∀ x ∈ xs, m ≤ cost x) ∧
    ∃ t, (xs.map fun r => dCR (cost r) r).foldl stepD (dCR (cost r0) r0) = dCR m t ∧ minDs (((r0 :: xs).filter fun r => decide (cost r = m)).map dL) = dL t
  | [], r0 => ⟨cost r0, .inl rfl, Nat.le_refl _, (fun _ h => nomatch h), r0, rfl, by
    rw [fpos rfl]
    rfl⟩
  | x :: xs, r0 => by
    rw [List.map_cons, List.foldl_cons]
    by_cases hlt : PySem.W.dataLt (dCR (cost x) x) (dCR (cost r0) r0) = true
    · obtain ⟨m, h1, h2, h3, t, h4, h5⟩ := min_pairs cost xs x
      have hs : stepD (dCR (cost r0) r0) (dCR (cost x) x) = dCR (cost x) x := if_pos hlt
      rw [hs]
      rw [lt_dCR] at hlt
      have hle : cost x ≤ cost r0 := by
        by_cases e : cost x = cost r0
        · omega
        · rw [if_neg e] at hlt
          have := of_decide_eq_true hlt
          omega
      refine ⟨m, ?_, by omega, fun y hy => ?_, t, h4, ?_⟩
      · rcases h1 with h1 | ⟨y, hy, h1⟩
        · exact .inr ⟨x, List.mem_cons_self, h1⟩
        · exact .inr ⟨y, List.mem_cons_of_mem _ hy, h1⟩
      · rcases List.mem_cons.mp hy with rfl | hy
        · exact h2
        · exact h3 y hy
      · by_cases e : cost r0 = m
        · rw [fpos e]
          have ex : cost x = m := by omega
          rw [fpos ex] at h5 ⊢
          rw [if_pos (by omega)] at hlt
          rw [← h5]
          show PySem.W.minD (dL r0) (dL x :: _) = PySem.W.minD (dL x) _
          rw [minD_step, minD_step, List.foldl_cons]
          congr 1
          exact if_pos hlt
        · rw [fneg e]
          exact h5
    · obtain ⟨m, h1, h2, h3, t, h4, h5⟩ := min_pairs cost xs r0
      have hs : stepD (dCR (cost r0) r0) (dCR (cost x) x) = dCR (cost r0) r0 := if_neg hlt
      rw [hs]
      rw [lt_dCR] at hlt
      have hle : cost r0 ≤ cost x := by
        by_cases e : cost x = cost r0
        · omega
        · rw [if_neg e] at hlt
          by_cases h : cost x < cost r0
          · exact absurd (decide_eq_true h) hlt
          · omega
      refine ⟨m, ?_, h2, fun y hy => ?_, t, h4, ?_⟩
      · rcases h1 with h1 | ⟨y, hy, h1⟩
        · exact .inl h1
        · exact .inr ⟨y, List.mem_cons_of_mem _ hy, h1⟩
      · rcases List.mem_cons.mp hy with rfl | hy
        · omega
        · exact h3 y hy
      · by_cases ex : cost x = m
        · have e : cost r0 = m := by omega
          rw [fpos e] at h5 ⊢
          rw [fpos ex]
          rw [if_pos (by omega)] at hlt
          rw [← h5]
          show PySem.W.minD (dL r0) (dL x :: _) = PySem.W.minD (dL r0) _
          rw [minD_step, minD_step, List.foldl_cons]
          congr 1
          exact if_neg hlt
        · by_cases e : cost r0 = m
          · rw [fpos e] at h5 ⊢
            rw [fneg ex]
            exact h5
          · rw [fneg e] at h5 ⊢
            rw [fneg ex]
            exact h5
theorem minDs_pairs (cost : List Nat → Nat) {L : List (List Nat)} (h : L ≠ []) : ∃ m t, m ∈ L.map cost ∧ (∀ x ∈ L.map cost, m ≤ x) ∧ minDs (L.map fun r => dCR (cost r) r) = dCR m t ∧ minDs ((L.filter fun r => decide (cost r = m)).map dL) = dL t := by
  cases L with
  | nil => exact absurd rfl h
  | cons r0 xs =>
    obtain ⟨m, h1, h2, h3, t, h4, h5⟩ := min_pairs cost xs r0
    refine ⟨m, t, ?_, fun c hc => ?_, h4, h5⟩
    · rcases h1 with h1 | ⟨x, hx, h1⟩
      · rw [h1]
        exact List.mem_cons_self
      · rw [h1]
        exact List.mem_map.mpr ⟨x, List.mem_cons_of_mem _ hx, rfl⟩
    · obtain ⟨x, hx, rfl⟩ := List.mem_map.mp hc
      rcases List.mem_cons.mp hx with rfl | hx
      · exact h2
      · exact h3 x hx
/-! ### the cost of the state made from sets -/
theorem sum_split (f : Nat → Nat) (p : Nat → Bool) : ∀ l : List Nat, (l.map f).sum = ((l.filter p).map f).sum + ((l.filter fun x => !p x).map f).sum
  | [] => rfl
  | x :: l => by
    have ih := sum_split f p l
    by_cases h : p x = true
    · rw [List.filter_cons_of_pos h, List.filter_cons_of_neg (by simp [h]), List.map_cons, List.map_cons, List.sum_cons, List.sum_cons, ih]
      omega
    · rw [List.filter_cons_of_neg h, List.filter_cons_of_pos (by simpa using h), List.map_cons, List.map_cons, List.sum_cons, List.sum_cons, ih]
      omega
theorem sub_filter : ∀ {s rooms : List Nat}, s.Sublist rooms → rooms.Nodup → rooms.filter (fun r => decide (r ∈ s)) = s := by
  intro s rooms h
  induction h with
  | slnil => intro _; rfl
  | @cons s l a h ih =>
    intro hn
    rw [List.nodup_cons] at hn
    rw [List.filter_cons_of_neg (by simpa using fun hm => hn.1 (h.subset hm))]
    exact ih hn.2
  | @cons_cons s l a h ih =>
    intro hn
    rw [List.nodup_cons] at hn
    rw [List.filter_cons_of_pos (by simp)]
    congr 1
    have e : l.filter (fun r => decide (r ∈ a :: s)) = l.filter fun r => decide (r ∈ s) := by
      refine List.filter_congr fun r hr => ?_
      have : r ≠ a := fun e => hn.1 (e ▸ hr)
      simp [this]
    rw [e]
    exact ih hn.2
theorem lvlO_in : ∀ (lvl : Nat) (l : List (List Nat)) (r n : Nat), lvlO lvl l r = some n → (∃ s ∈ l, r ∈ s) ∧ lvl ≤ n ∧ n < lvl + l.length
  | _, [], _, _, h => nomatch h
  | lvl, s :: l, r, n, h => by
    have h : (lvlO (lvl + 1) l r).or (if r ∈ s then some lvl else none) = some n := h
    cases h2 : lvlO (lvl + 1) l r with
    | some m =>
      rw [h2] at h
      cases h
      obtain ⟨⟨t, ht, hr⟩, h3, h4⟩ := lvlO_in (lvl + 1) l r n h2
      exact ⟨⟨t, List.mem_cons_of_mem _ ht, hr⟩, by omega, by rw [List.length_cons]; omega⟩
    | none =>
      rw [h2] at h
      by_cases hr : r ∈ s
      · rw [if_pos hr] at h
        cases h
        exact ⟨⟨s, List.mem_cons_self, hr⟩, Nat.le_refl _, by rw [List.length_cons]; omega⟩
      · rw [if_neg hr] at h
        cases h
theorem layC_sum (rows cs : List (List Nat)) : ∀ (k : Nat) (rooms : List Nat) (lvl : Nat) (l : List (List Nat)), rooms.length ≤ k → rooms.Nodup → l ∈ layersF rows k rooms → (rooms.map fun r => cinF (cs.getD r []) ((lvlO lvl l r).getD 0)).sum = layC cs lvl l
  | 0, rooms, lvl, l, hk, _, h => by
    have : rooms = [] := List.length_eq_zero_iff.mp (by omega)
    subst this
    have : l = [] := by simpa [layersF] using h
    subst this
    rfl
  | k + 1, rooms, lvl, l, hk, hn, h => by
    unfold layersF at h
    split at h
    · rename_i h0
      have : l = [] := by simpa using h
      subst this h0
      rfl
    · rename_i h0
      obtain ⟨s, hs, h⟩ := List.mem_flatMap.mp h
      obtain ⟨l', h', rfl⟩ := List.mem_map.mp h
      have hsub := largestF_sub hs
      have hll := leftF_len h0 hs
      rw [sum_split _ (fun r => decide (r ∈ s)) rooms, sub_filter hsub hn]
      have ih := layC_sum rows cs k (leftF rooms s) (lvl + 1) l' (by omega) (hn.sublist (leftF_sub rooms s)) h'
      show _ = stepC cs lvl s + layC cs (lvl + 1) l'
      rw [← ih]
      congr 1
      · unfold stepC
        congr 1
        refine List.map_congr_left fun r hr => ?_
        have hno : lvlO (lvl + 1) l' r = none := by
          cases e : lvlO (lvl + 1) l' r with
          | none => rfl
          | some m =>
            obtain ⟨⟨t, ht, hrt⟩, _⟩ := lvlO_in _ _ _ _ e
            have := (layersF_in rows k _ l' h' t ht).subset hrt
            unfold leftF at this
            have := (List.mem_filter.mp this).2
            simp [hr] at this
        have : lvlO lvl (s :: l') r = some lvl := by
          show (lvlO (lvl + 1) l' r).or _ = _
          rw [hno, if_pos hr]
          rfl
        rw [this]
        rfl
      · show ((leftF rooms s).map _).sum = _
        congr 1
        refine List.map_congr_left fun r hr => ?_
        unfold leftF at hr
        have hns := (List.mem_filter.mp hr).2
        have hns : r ∉ s := by simpa using hns
        have : lvlO lvl (s :: l') r = lvlO (lvl + 1) l' r := by
          show (lvlO (lvl + 1) l' r).or _ = _
          rw [if_neg hns]
          cases lvlO (lvl + 1) l' r <;> rfl
        rw [this]
theorem cost_state {n : Nat} {rows cs l : List (List Nat)} (hc : cs.length = n) (h : l ∈ layersF rows n (List.range n)) : costF cs (stateF n l) = layC cs 0 l := by
  rw [← lawC_eq hc (stateF_len n l), ← layC_sum rows cs n (List.range n) 0 l (by rw [List.length_range]; exact Nat.le_refl _) List.nodup_range h]
  unfold lawC
  rw [stateF_len]
  congr 1
  refine List.map_congr_left fun r hr => ?_
  rw [stateF_get (List.mem_range.mp hr)]
theorem restsF_mem {n : Nat} {ds : List (Nat × Nat)} {r : List Nat} : r ∈ restsF n ds ↔ ∃ l ∈ layersF (nearF n ds) n (List.range n), r = stateF n l := by
  unfold restsF
  rw [sortD_mem, List.mem_map]
  constructor
  · rintro ⟨l, hl, rfl⟩
    exact ⟨l, hl, rfl⟩
  · rintro ⟨l, hl, rfl⟩
    exact ⟨l, hl, rfl⟩
/-- the state that cheapest finds -/
theorem cheap_ok {n : Nat} {ds : List (Nat × Nat)} {cs : List (List Nat)} (hc : cs.length = n) : stateF n (chF (nearF n ds) cs n (List.range n) 0) ∈ restsF n ds ∧ costF cs (stateF n (chF (nearF n ds) cs n (List.range n) 0)) = leastF (nearF n ds) cs n (List.range n) 0 := by
  obtain ⟨h1, h2⟩ := chF_lay (nearF n ds) cs n (List.range n) 0
  exact ⟨restsF_mem.mpr ⟨_, h1, rfl⟩, by rw [cost_state hc h1, h2]⟩
theorem least_all {n : Nat} {ds : List (Nat × Nat)} {cs : List (List Nat)} (hc : cs.length = n) : ∀ r ∈ restsF n ds, leastF (nearF n ds) cs n (List.range n) 0 ≤ costF cs r := by
  intro r hr
  obtain ⟨l, hl, rfl⟩ := restsF_mem.mp hr
  rw [cost_state hc hl]
  exact least_le _ _ _ _ _ _ hl
theorem under_rests {n : Nat} {ds : List (Nat × Nat)} {st r : List Nat} (h : r ∈ underF n ds st) : r ∈ restsF n ds := by
  obtain ⟨l, hl, rfl⟩ := underF_mem h
  exact restsF_mem.mpr ⟨l, belowF_lay _ st n _ _ l hl, rfl⟩
end Mx
/-! Me: below a parted state there is one; plain costs. -/
namespace Mx
open PySem PySem.Spec PyProof.Rows L2
/-- near rows: both ways, never itself -/
structure SymR (rows : List (List Nat)) : Prop where
  sym : ∀ a b, b ∈ rows.getD a [] → a ∈ rows.getD b []
  irr : ∀ a, a ∉ rows.getD a []
def Ind (rows : List (List Nat)) (s : List Nat) : Prop := ∀ a ∈ s, ∀ o ∈ rows.getD a [], o ∉ s
theorem free_iff {rows : List (List Nat)} {r : Nat} {s : List Nat} : freeF rows r s = true ↔ ∀ o ∈ rows.getD r [], o ∉ s := by
  unfold freeF
  constructor
  · intro h o ho hs
    have : ((rows.getD r []).any fun o => decide (o ∈ s)) = true := List.any_eq_true.mpr ⟨o, ho, decide_eq_true hs⟩
    rw [this] at h
    cases h
  · intro h
    have : ((rows.getD r []).any fun o => decide (o ∈ s)) = false := by
      rw [List.any_eq_false]
      intro o ho
      simpa using h o ho
    rw [this]
    rfl
theorem greedy_ind {rows : List (List Nat)} (hs : SymR rows) : ∀ (rooms s : List Nat), Ind rows s → Ind rows (greedy rows rooms s)
  | [], _, h => h
  | r :: rooms, s, h => by
    refine greedy_ind hs rooms _ ?_
    dsimp only
    by_cases e : freeF rows r s = true
    · rw [if_pos e]
      have e' := free_iff.mp e
      intro a ha o ho hos
      rcases List.mem_append.mp ha with ha1 | ha1
      · rcases List.mem_append.mp hos with hos | hos
        · exact h a ha1 o ho hos
        · rw [List.mem_singleton] at hos
          subst hos
          exact e' a (hs.sym _ _ ho) ha1
      · rw [List.mem_singleton] at ha1
        subst ha1
        rcases List.mem_append.mp hos with hos | hos
        · exact e' o ho hos
        · rw [List.mem_singleton] at hos
          subst hos
          exact hs.irr _ ho
    · rw [if_neg e]
      exact h
theorem greedy_sub (rows : List (List Nat)) : ∀ (rooms s : List Nat), ∀ x ∈ greedy rows rooms s, x ∈ s ∨ x ∈ rooms
  | [], _, x, h => .inl h
  | r :: rooms, s, x, h => by
    rcases greedy_sub rows rooms _ x h with h | h
    · dsimp only at h
      by_cases e : freeF rows r s = true
      · rw [if_pos e] at h
        rcases List.mem_append.mp h with h | h
        · exact .inl h
        · rw [List.mem_singleton] at h
          exact .inr (h ▸ List.mem_cons_self)
      · rw [if_neg e] at h
        exact .inl h
    · exact .inr (List.mem_cons_of_mem _ h)
/-- all parts that are independent are found -/
theorem found_all (rows : List (List Nat)) (p : Nat → Bool) : ∀ (rooms pre : List Nat) (fs : List (List Nat)), (∀ r ∈ rooms, p r = true → ∀ o ∈ rows.getD r [], p o = false) → pre.filter p ∈ fs →
    (pre ++ rooms).filter p ∈ rooms.foldl (fun fs r => fs ++ (fs.filter (freeF rows r)).map fun s => s ++ [r]) fs
  | [], pre, fs, _, h => by rw [List.append_nil]; exact h
  | r :: rooms, pre, fs, hi, h => by
    have := found_all rows p rooms (pre ++ [r]) (fs ++ (fs.filter (freeF rows r)).map fun s => s ++ [r]) (fun x hx => hi x (List.mem_cons_of_mem _ hx)) (by
      rw [List.filter_append]
      by_cases e : p r = true
      · rw [List.filter_cons_of_pos e, List.filter_nil]
        refine List.mem_append_right _ (List.mem_map.mpr ⟨_, List.mem_filter.mpr ⟨h, free_iff.mpr fun o ho hm => ?_⟩, rfl⟩)
        have h1 := hi r List.mem_cons_self e o ho
        have h2 := (List.mem_filter.mp hm).2
        rw [h1] at h2
        cases h2
      · rw [List.filter_cons_of_neg e, List.filter_nil, List.append_nil]
        exact List.mem_append_left _ h)
    rw [List.append_assoc] at this
    exact this
/-- a largest set that holds what must be in it -/
theorem lg_over {rows : List (List Nat)} (hs : SymR rows) {rooms must : List Nat} (hm : ∀ r ∈ must, r ∈ rooms) (hi : Ind rows must) : ∃ s ∈ largestF rows rooms, ∀ r ∈ must, r ∈ s := by
  have hg := greedy_ind hs rooms must hi
  have hmem : ∀ x, x ∈ rooms.filter (fun r => decide (r ∈ greedy rows rooms must)) ↔ x ∈ greedy rows rooms must := fun x => by
    rw [List.mem_filter]
    constructor
    · rintro ⟨_, h⟩
      exact of_decide_eq_true h
    · intro h
      refine ⟨?_, decide_eq_true h⟩
      rcases greedy_sub rows rooms must x h with h | h
      · exact hm x h
      · exact h
  refine ⟨rooms.filter fun r => decide (r ∈ greedy rows rooms must), lg_mem.mpr ⟨?_, isLg_iff.mpr fun r hr => ?_⟩, fun r hr => (hmem r).mpr (greedy_keep rows rooms must r hr)⟩
  · have := found_all rows (fun r => decide (r ∈ greedy rows rooms must)) rooms [] [[]] (fun r _ hp o ho => decide_eq_false (hg r (of_decide_eq_true hp) o ho)) List.mem_cons_self
    exact this
  · rcases greedy_lg rows rooms must r hr with h | ⟨o, ho, h⟩
    · exact .inl ((hmem r).mpr h)
    · exact .inr ⟨o, ho, (hmem o).mpr h⟩
theorem below_ne {rows : List (List Nat)} (hs : SymR rows) {st : List Nat} (hp : ∀ a b, b ∈ rows.getD a [] → st.getD a 0 ≠ st.getD b 0) : ∀ (k : Nat) (rooms : List Nat) (lvl : Nat), rooms.length ≤ k → (∀ r ∈ rooms, lvl ≤ st.getD r 0) → belowF rows st k rooms lvl ≠ []
  | 0, _, _, _, _ => fun e => nomatch e
  | k + 1, rooms, lvl, hk, hl => by
    rw [belowF]
    by_cases h0 : rooms = []
    · rw [if_pos h0]
      exact fun e => nomatch e
    · rw [if_neg h0]
      obtain ⟨s, hsm, hov⟩ := lg_over hs (rooms := rooms) (must := rooms.filter fun r => decide (st.getD r 0 = lvl)) (fun r hr => (List.mem_filter.mp hr).1) (fun a ha o ho hoi => by
        have h1 := of_decide_eq_true (List.mem_filter.mp ha).2
        have h2 := of_decide_eq_true (List.mem_filter.mp hoi).2
        exact hp a o ho (by rw [h1, h2]))
      have hsub := largestF_sub hsm
      have hok : okB st rooms lvl s = true := by
        unfold okB
        rw [Bool.and_eq_true, List.all_eq_true, List.all_eq_true]
        exact ⟨fun r hr => decide_eq_true (hov r hr), fun r hr => decide_eq_true (hl r (hsub.subset hr))⟩
      have ih := below_ne hs hp k (leftF rooms s) (lvl + 1) (by have := leftF_len h0 hsm; omega) (fun r hr => by
        unfold leftF at hr
        obtain ⟨h1, h2⟩ := List.mem_filter.mp hr
        have h3 := hl r h1
        by_cases e : st.getD r 0 = lvl
        · have : r ∈ s := hov r (List.mem_filter.mpr ⟨h1, decide_eq_true e⟩)
          simp [this] at h2
        · omega)
      obtain ⟨l, t, hlt⟩ := List.exists_cons_of_ne_nil ih
      intro e
      have hmem : s :: l ∈ ((largestF rows rooms).filter (okB st rooms lvl)).flatMap fun s => (belowF rows st k (leftF rooms s) (lvl + 1)).map fun l => s :: l :=
        List.mem_flatMap.mpr ⟨s, List.mem_filter.mpr ⟨hsm, hok⟩, List.mem_map.mpr ⟨l, by rw [hlt]; exact List.mem_cons_self, rfl⟩⟩
      rw [e] at hmem
      cases hmem
theorem near_sym {n : Nat} {ds : List (Nat × Nat)} (ok : HouseOk n ds) : SymR (nearF n ds) := ⟨fun a b h => by
  rw [near_mem ok.lt'] at h ⊢
  exact h.symm, fun a h => by
  rw [near_mem ok.lt'] at h
  rcases h with h | h
  · have := (ok.lt _ h).1
    exact Nat.lt_irrefl _ this
  · have := (ok.lt _ h).1
    exact Nat.lt_irrefl _ this⟩
theorem under_ne {n : Nat} {ds : List (Nat × Nat)} {st : List Nat} (ok : HouseOk n ds) (hp : Parted ds st) : underF n ds st ≠ [] := by
  unfold underF
  refine sortD_ne fun e => ?_
  refine below_ne (near_sym ok) (st := st) (fun a b h => ?_) n (List.range n) 0 (by rw [List.length_range]; exact Nat.le_refl _) (fun _ _ => Nat.zero_le _) (List.map_eq_nil_iff.mp e)
  rw [near_mem ok.lt'] at h
  rcases h with h | h
  · exact hp _ h
  · exact (hp _ h).symm
/-! ### costs 0 to 7 -/
def plainC (n : Nat) : List (List Nat) := List.replicate n (List.range 8)
theorem plain_ok (n : Nat) : CostsOk n (plainC n) := by
  have h : ∀ r ∈ plainC n, r = List.range 8 := fun r hr => (List.mem_replicate.mp hr).2
  refine ⟨List.length_replicate .., fun r hr => ?_, fun r hr c hc => ?_⟩
  · rw [h r hr, List.length_range]
    exact ⟨by decide, Nat.le_refl _⟩
  · rw [h r hr, List.mem_range] at hc
    omega
theorem rests_len {n : Nat} {ds : List (Nat × Nat)} {r : List Nat} (h : r ∈ restsF n ds) : r.length = n := by
  obtain ⟨l, _, rfl⟩ := restsF_mem.mp h
  exact stateF_len n l
theorem rests_small {n : Nat} {ds : List (Nat × Nat)} {r : List Nat} (n6 : n ≤ 6) (h : r ∈ restsF n ds) : ∀ i, r.getD i 0 ≤ 6 := by
  obtain ⟨l, hl, rfl⟩ := restsF_mem.mp h
  intro i
  by_cases hi : i < n
  · rw [stateF_get hi]
    have hlong := layersF_long _ n _ l hl
    cases e : lvlO 0 l i with
    | none => exact Nat.zero_le _
    | some m =>
      have := (lvlO_in 0 l i m e).2.2
      show m ≤ 6
      omega
  · rw [List.getD_eq_getElem?_getD, List.getElem?_eq_none (by rw [stateF_len]; omega)]
    exact Nat.zero_le _
theorem plain_cost {n : Nat} {ds : List (Nat × Nat)} {r : List Nat} (n6 : n ≤ 6) (h : r ∈ restsF n ds) : costF (plainC n) r = r.sum := by
  have hl := rests_len h
  have hs := rests_small n6 h
  rw [← lawC_eq (plain_ok n).len hl]
  unfold lawC
  congr 1
  apply List.ext_getElem
  · rw [List.length_map, List.length_range]
  · intro i h1 h2
    rw [List.getElem_map, List.getElem_range]
    have e : (plainC n).getD i [] = List.range 8 := by
      rw [List.getD_eq_getElem?_getD, plainC, List.getElem?_replicate, if_pos (by omega)]
      rfl
    have hi := hs i
    have hg : r.getD i 0 = r[i] := by
      rw [List.getD_eq_getElem?_getD, List.getElem?_eq_getElem h2]
      rfl
    rw [e, hg]
    rw [hg] at hi
    generalize r[i] = x at hi
    have : ∀ x, x ≤ 6 → cinF (List.range 8) x = x := by decide
    exact this x hi
end Mx
/-! P9: law -/
namespace Mx
open PySem PySem.Spec PyProof.Rows L2
theorem room65 {k : Nat} {A : Around} (r : Room k A) : A.units + 65 < cLine := by
  have := r.un
  omega
theorem rests_row {K : PySem.W.Frag} {H H' : Hp} {R S : Addr} {v : V} {L : List (List Nat)} (hv : RowV H R S) (e : ExB R H H') (h : Dp K H v (.list (L.map dL))) : Dp K H' v (.list (L.map dL)) := by
  obtain ⟨a, xs, rfl, hs, ha⟩ := dp_list h
  refine .lst (sql_row hv (fun k x y ex => ?_) e hs) (dps_td (hv.ext e) _ _ (noLs_dLs L) ha)
  subst ex
  cases L with
  | nil => cases ha
  | cons r L =>
    obtain ⟨v, t, e1, h1, h2⟩ := dps_cons ha
    cases e1
    cases L with
    | nil => cases h2
    | cons r' L =>
      obtain ⟨v, t, e1, h1, h2⟩ := dps_cons h2
      cases e1
      cases h1
theorem shaped_rests (L : List (List Nat)) : SeqAt.shaped (.list (L.map dL)) = true := by
  unfold SeqAt.shaped
  have h1 : (PyData.list (L.map dL)).canLay0 = true := by
    show PyData.canLayAll0 (L.map dL) = true
    induction L with
    | nil => rfl
    | cons x L ih =>
      rw [List.map_cons, PyData.canLayAll0, ih]
      have := PySem.SeqAt.canLay_of_shaped (shaped_dL x)
      rw [this]
      rfl
  have h2 : (PyData.list (L.map dL)).depth ≤ 64 := by
    have : PyData.depthAll (L.map dL) ≤ 1 := depthAll_le fun d hd => by
      obtain ⟨a, _, rfl⟩ := List.mem_map.mp hd
      rw [depth_dL]
      exact Nat.le_refl _
    show PyData.depthAll (L.map dL) + 1 ≤ 64
    omega
  rw [h1, decide_eq_true h2]
  rfl
theorem in_rests {L : List (List Nat)} {r : List Nat} (h : r ∈ L) : ((L.map dL).any fun z => PyData.eqv z (dL r)) = true := List.any_eq_true.mpr ⟨dL r, List.mem_map.mpr ⟨r, h, rfl⟩, by rw [eqv_dL]; exact decide_eq_true rfl⟩
theorem gMin_nats {α : Type} {L : List α} {f : α → Nat} {m : Nat} (h : L ≠ []) (e : minDs (L.map fun r => dN (f r)) = dN m) : gMin [.list (lcOut L (fun _ => true) fun r => dN (f r))] (dN m) := by
  rw [lcOut_all, ← e]
  refine gMin_of (fun e => h (List.map_eq_nil_iff.mp e)) (fun x hx y hy => ?_) (fun x hx => ?_) (fun x hx => ?_)
  · obtain ⟨a, _, rfl⟩ := List.mem_map.mp hx
    obtain ⟨b, _, rfl⟩ := List.mem_map.mp hy
    rfl
  · obtain ⟨a, _, rfl⟩ := List.mem_map.mp hx
    exact fun h => nomatch h
  · obtain ⟨a, _, rfl⟩ := List.mem_map.mp hx
    show 0 ≤ 10
    omega
theorem gMin_rows {L : List (List Nat)} {t : List Nat} (h : L ≠ []) (e : minDs (L.map dL) = dL t) : gMin [.list (L.map dL)] (dL t) := by
  rw [← e]
  refine gMin_of (fun e => h (List.map_eq_nil_iff.mp e)) (fun x hx y hy => ?_) (fun x hx => ?_) (fun x hx => ?_)
  · obtain ⟨a, _, rfl⟩ := List.mem_map.mp hx
    obtain ⟨b, _, rfl⟩ := List.mem_map.mp hy
    exact alike_dL _ _
  · obtain ⟨a, _, rfl⟩ := List.mem_map.mp hx
    exact fun h => nomatch h
  · obtain ⟨a, _, rfl⟩ := List.mem_map.mp hx
    rw [depth_dL]
    omega
theorem minD_in (xs : List PyData) : ∀ x : PyData, PySem.W.minD x xs = x ∨ PySem.W.minD x xs ∈ xs := by
  induction xs with
  | nil => intro x; exact .inl rfl
  | cons y xs ih =>
    intro x
    rw [minD_step, List.foldl_cons]
    have := ih (stepD x y)
    rw [minD_step] at this
    rcases this with h | h
    · rw [h]
      unfold stepD
      split
      · exact .inr List.mem_cons_self
      · exact .inl rfl
    · exact .inr (List.mem_cons_of_mem _ h)
theorem minDs_in {ds : List PyData} (h : ds ≠ []) : minDs ds ∈ ds := by
  cases ds with
  | nil => exact absurd rfl h
  | cons x xs =>
    rcases minD_in xs x with e | e
    · show PySem.W.minD x xs ∈ _
      rw [e]
      exact List.mem_cons_self
    · exact List.mem_cons_of_mem _ e
theorem restsF_len {n : Nat} {ds : List (Nat × Nat)} (n6 : n ≤ 6) : (restsF n ds).length ≤ sizeLine := by
  unfold restsF
  rw [sortD_len, List.length_map]
  exact Nat.le_trans (layersF_len _ n _ (by rw [List.length_range]; exact Nat.le_refl _)) (layB8 n6)
theorem sum_rows (r : List Nat) : gSum [dL r] (dN r.sum) := by
  refine ⟨r.map fun x : Nat => (x : Int), .inr (by rw [List.map_map]; rfl), ?_⟩
  have := sum_cast (fun x : Nat => x) r
  rw [List.map_id'] at this
  exact iE this.symm
section
variable {P : Program} {w : World} {K : PySem.W.Frag} {mg : Str → Option Value} {base : Heap}
abbrev sLaw : Stmt := topS 49
abbrev nLaw : List Str := ["_law_script", "_law_row", "_law_house_here", "_law_costs", "_law_some", "_law_rest", "_law_least", "_law_state", "_law_below", "_law_best", "_law_plain", "_law_number", "_law_room", "_law_one"]
theorem sc_law : FnScope nLaw ["_law_script"] (defScope sLaw) := ⟨rfl, rfl, rfl, by decide +kernel, rfl, by decide +kernel, by decide +kernel⟩
def spLaw (K : PySem.W.Frag) : Sp := fun vs H Q _ => ∃ (S : Addr) (ns : List Int), vs = [.ref S] ∧ SqL K H S (ns.map V.int) ∧ ∀ H', Q (.bl true) H'
theorem ok_law {f : Addr} {fd : FuncData} (D : Fun K "law" "law" sLaw f fd) (mt : mg "tuple" = none) (mr : mg "range" = none) (mm : mg "min" = none) (ms : mg "sum" = none)
    (F1 : Has P w K mg base 2 "_law_house" ["_law_row", "_law_most"] (spLawHouse K)) (F2 : Has P w K mg base 1 "_law_taken" ["_law_row", "_law_many"] (spTaken K)) (F3 : Has P w K mg base 11 "rests" ["house"] (spL K gAllRests))
    (F4 : Has P w K mg base 1 "_law_cost" ["_law_costs", "_law_rest"] (spD K gLawCost)) (F5 : Has P w K mg base 3 "_law_alike" ["_law_found", "_law_due"] (spD K (gAlike 2))) (F6 : Has P w K mg base 10 "least_cost" ["house", "costs"] (spD K gLeastCost))
    (F7 : Has P w K mg base 10 "cheapest" ["house", "costs"] (spD K gCheapest)) (F8 : Has P w K mg base 3 "_law_parted" ["_law_row", "_law_house_here", "_law_top"] (spLawParted K)) (F9 : Has P w K mg base 11 "rests_below" ["house", "state"] (spL K gRestsBelow))
    (F10 : Has P w K mg base 11 "cheapest_below" ["house", "state", "costs"] (spD K gCheapestBelow)) : FnOk P w K mg base CX0 12 f fd ["_law_script"] (spLaw K) := by
  refine D.ok sc_law (fun vs H Q E ⟨_, _, e, _⟩ => by rw [e]; rfl) fun cdv A outer s H vs Q E hr h => ?_
  obtain ⟨S, ns, rfl, hS, q⟩ := h
  refine ⟨_, pss_cons (ps_set (i := 1) sc_law.nd rfl (.inr rfl) (pe_lst (pa_cons (pv 0) (pa_cons pe_int (pa_cons pe_int (pa_cons pe_int pa_nil))))))
    (pss_cons (ps_set (i := 2) sc_law.nd rfl (.inl rfl) (pe_def F1 hr (by decide) rfl (pa_cons (pv 1) (pa_cons pe_int pa_nil))))
    (pss_cons (ps_set (i := 3) sc_law.nd rfl (.inr rfl) (pe_callTy cr_tupOf rfl mt bt_tuple (pa_cons (pe_lc (own := [("_law_room", 12)]) (g := gName 12) (tt := tDT K tYesD)
        (te := tCB (rTupOf K) (tCons (tLc (iRng1 (tCons (tOp (rI0 fun i j => .int (i + j)) (tC (.int 1)) (fun σ H Q => tCons (tVar 1) (tCons (tC (.int 4)) tNil) σ H fun vs H1 => spTaken K vs H1 Q E0)) tNil)) (gName 11) (tDT K tYesD) (fun σ H Q => tCons (tVar 1) (tCons (tC (.int 20)) tNil) σ H fun vs H1 => spTaken K vs H1 Q E0) [11]) tNil))
        rfl sc_law.nd (pi_range1 rfl mr (da_cons (de_ix id_ix (dv 2) de_int) da_nil)) (blkOk_by (N := nLaw) (sc := defScope sLaw) (by decide +kernel)) (fun _ _ _ _ _ => pg_name (i := 12) sc_law.nd rfl (.inl rfl)) (fun _ _ _ _ _ => dts_nil)
        (fun _ _ _ _ _ => pe_callTy cr_tupOf rfl mt bt_tuple (pa_cons (pe_lc (own := [("_law_number", 11)]) (g := gName 11) (tt := tDT K tYesD) rfl sc_law.nd (pi_range1 rfl mr (pa_cons (pe_op op_add pe_int (pe_def F2 hr (by decide) rfl (pa_cons (pv 1) (pa_cons pe_int pa_nil)))) pa_nil)) (blkOk_by (N := nLaw) (sc := relS _ (defScope sLaw)) (by decide +kernel)) (fun _ _ _ _ _ => pg_name (i := 11) sc_law.nd rfl (.inl rfl)) (fun _ _ _ _ _ => dts_nil)
          (fun _ _ _ _ _ => pe_def F2 hr (by decide) rfl (pa_cons (pv 1) (pa_cons pe_int pa_nil)))) pa_nil))) pa_nil)))
    (pss_cons (ps_set (i := 4) sc_law.nd rfl (.inl rfl) (de_of_dl (dl_def F3 hr (by decide) rfl (da_cons (dv 2) da_nil))))
    (pss_cons (ps_set (i := 6) sc_law.nd rfl (.inl rfl) (de_bi (cd_min rfl hr.units) rfl mm bb_min (da_cons (de_lc (x := "_law_rest") (j := 5) rfl sc_law.nd rfl (dv 4) (blkOk_by (N := nLaw) (sc := defScope sLaw) (by decide +kernel)) (fun _ _ _ _ _ => pg_name (i := 5) sc_law.nd rfl (.inl rfl)) (fun _ _ _ _ _ => dts_nil)
      (fun _ _ _ _ _ => de_def F4 hr (by decide) rfl (da_cons (dv 3) (da_cons (dv 5) da_nil)))) da_nil)))
    (pss_cons (ps_if (dt_not (dt_val (de_def F5 hr (by decide) rfl (da_cons (de_def F6 hr (by decide) rfl (da_cons (dv 2) (da_cons (dv 3) da_nil))) (da_cons (dv 6) da_nil))))) (pss_one ps_never) pss_nil)
    (pss_cons (ps_set (i := 5) sc_law.nd rfl (.inl rfl) (de_def F7 hr (by decide) rfl (da_cons (dv 2) (da_cons (dv 3) da_nil))))
    (pss_cons (ps_if (PW.pt (dw_or (dt_cmp (od_notInD (room65 hr)) (dv 5) (dv 4) rfl) (dw_or1 (dt_cmp (od_ne hr.units) (de_def F4 hr (by decide) rfl (da_cons (dv 3) (da_cons (dv 5) da_nil))) (dv 6) (nomark _))))) (pss_one ps_never) pss_nil)
    (pss_cons (ps_set (i := 7) sc_law.nd rfl (.inl rfl) (pe_def F8 hr (by decide) rfl (pa_cons (pv 1) (pa_cons (pv 2) (pa_cons pe_int pa_nil)))))
    (pss_cons (ps_set (i := 8) sc_law.nd rfl (.inl rfl) (de_of_dl (dl_def F9 hr (by decide) rfl (da_cons (dv 2) (da_cons (dv 7) da_nil)))))
    (pss_cons (ps_set (i := 9) sc_law.nd rfl (.inr rfl) (de_bi (cd_min rfl hr.units) rfl mm bb_min (da_cons (de_lc (x := "_law_one") (j := 13) rfl sc_law.nd rfl (dv 8) (blkOk_by (N := nLaw) (sc := defScope sLaw) (by decide +kernel)) (fun _ _ _ _ _ => pg_name (i := 13) sc_law.nd rfl (.inl rfl)) (fun _ _ _ _ _ => dts_nil)
      (fun _ _ _ _ _ => de_def F4 hr (by decide) rfl (da_cons (dv 3) (da_cons (dv 13) da_nil)))) da_nil)))
    (pss_cons (ps_if (dt_not (dt_val (de_def F5 hr (by decide) rfl (da_cons (de_def F10 hr (by decide) rfl (da_cons (dv 2) (da_cons (dv 7) (da_cons (dv 3) da_nil)))) (da_cons (de_tup (da_cons (dv 9) (da_cons (de_bi (cd_min rfl hr.units) rfl mm bb_min
      (da_cons (de_lc (x := "_law_one") (j := 13) rfl sc_law.nd rfl (dv 8) (blkOk_by (N := nLaw) (sc := defScope sLaw) (by decide +kernel)) (fun _ _ _ _ _ => pg_name (i := 13) sc_law.nd rfl (.inl rfl)) (fun _ _ _ _ _ => dts_one (dt_cmp (od_eq hr.units) (de_def F4 hr (by decide) rfl (da_cons (dv 3) (da_cons (dv 13) da_nil))) (dv 9) (nomark _)))
      (fun _ _ _ _ _ => dv 13)) da_nil)) da_nil))) da_nil))))) (pss_one ps_never) pss_nil)
    (pss_cons (ps_set (i := 10) sc_law.nd rfl (.inl rfl) (de_op od_repT (de_tup (da_cons (de_tupR rfl rfl mt rfl mr de_int) da_nil)) (de_ix id_ix (dv 2) de_int)))
    (pss_one (ps_ret (de_and (de_cmp (od_eq hr.units) (de_def F6 hr (by decide) rfl (da_cons (dv 2) (da_cons (dv 10) da_nil))) (de_bi (cd_min rfl hr.units) rfl mm bb_min (da_cons (de_lc (x := "_law_one") (j := 13) rfl sc_law.nd rfl (dv 4) (blkOk_by (N := nLaw) (sc := defScope sLaw) (by decide +kernel)) (fun _ _ _ _ _ => pg_name (i := 13) sc_law.nd rfl (.inl rfl)) (fun _ _ _ _ _ => dts_nil)
      (fun _ _ _ _ _ => de_bi (cd_sum rfl) rfl ms bb_sum (da_cons (dv 13) da_nil))) da_nil)) (nomark _))
      (pe_one (de_cmp od_ge (dv 9) (dv 6) (nomark _)))))))))))))))))), ?_⟩
  -- the row
  refine ⟨_, rfl, by show 4 ≤ sizeLine; decide, fun R hR => ?_⟩
  have hrow1 : RowAt K (upd H R (.lst [.ref S, .int 0, .int 6074, .int 0])) R S := by
    refine ⟨?_, 0, 6074, 0, upd_same⟩
    rcases hS with (hS | ⟨o, hS⟩) | hS
    · exact ⟨ns, .inr ⟨ne_of_none hS hR, .inl (by rw [upd_ne (ne_of_none hS hR)]; exact hS)⟩⟩
    · exact ⟨ns, .inr ⟨ne_of_none hS hR, .inr ⟨o, by rw [upd_ne (ne_of_none hS hR)]; exact hS⟩⟩⟩
    · exact ⟨ns, .inl fun H' => .inr hS⟩
  generalize upd H R (.lst [.ref S, .int 0, .int 6074, .int 0]) = H1 at hrow1 ⊢
  -- the house
  refine ⟨_, rfl, R, S, rfl, hrow1, fun n ds v2 H2 ok n6 e2 hrow2 hv2 => ?_⟩
  obtain ⟨hsc2, hrv2⟩ := hrow2
  have n1 := ok.n1
  -- the costs
  refine ⟨_, _, (sd_skip (sd_skip (sd_cons hv2 sd_nil)) : SD K H2 _ [none, none, some (dHouse n ds)]), ⟨_, _, ⟨_, _, rfl, rfl, ⟨_, 0, .inr rfl, rfl, rfl⟩⟩, rfl, rfl⟩, fun vs3 H3 e3 hvs3 => ?_⟩
  obtain ⟨vn, rfl, hvn⟩ := dps1 hvs3
  obtain rfl := dp_int hvn
  refine ⟨(n : Int), rfl, by omega, by omega, ?_⟩
  rw [Int.toNat_natCast]
  refine fun D hD => lc_range (lo := 0) (n := n) (fun i H' => ∃ (css : List (List Nat)) (acc : List V), css.length = i ∧ (∀ r ∈ css, 1 ≤ r.length ∧ r.length ≤ 8 ∧ ∀ c ∈ r, c ≤ 99) ∧ ExB R H2 H' ∧ RowV H' R S ∧ H' D = some (.lst acc) ∧ DpAll K H' acc (css.map dL))
    ?_ (fun i H' hi hpv => ?_) (fun H' hpv => ?_)
  · have hDR : D ≠ R := by
      obtain ⟨xs, hx⟩ := (hrv2.ex e3).some
      exact (ne_of_none hx hD).symm
    exact ⟨[], [], rfl, (fun _ h => nomatch h), ExB.of (e3.trans (Evl.Ex.new hD)), (hrv2.ex e3).upd hDR, upd_same, .nil⟩
  · obtain ⟨css, acc, hl, hcs, eb, hrv, hDa, hda⟩ := hpv
    have hDR : D ≠ R := by
      obtain ⟨xs, hx⟩ := (hrv2.ex e3).some
      exact (ne_of_none hx hD).symm
    refine ⟨wipe_one, [], true, sd_nil, rfl, fun H4 e4 => ?_⟩
    dsimp only
    rw [if_pos rfl]
    have eb4 : ExB R H2 H4 := eb.trans (ExB.of e4)
    refine ⟨_, rfl, R, S, 4, rfl, by omega, by omega, ⟨hsc2.exb eb4, hrv.ex e4⟩, fun t H5 ht e5 hrow5 => ⟨_, _, rfl, rfl, 1 + (t : Int), rfl, by omega, by omega, ?_⟩⟩
    rw [show (1 + (t : Int)).toNat = t + 1 by omega]
    obtain ⟨hsc5, hrv5⟩ := hrow5
    have hDa5 : H5 D = some (.lst acc) := e5 _ _ hDR (e4 _ _ hDa)
    have hda5 : DpAll K H5 acc (css.map dL) := dps_td ((hrv.ex e4).ext e5) _ _ (noLs_dLs css) (dps_ex e4 hda)
    refine fun D2 hD2 => lc_range (lo := 0) (n := t + 1) (te := fun σ H Q => tCons (tVar 1) (tCons (tC (.int 20)) tNil) σ H fun vs H1 => spTaken K vs H1 Q E0) (fun j H' => ∃ row : List Nat, row.length = j ∧ (∀ c ∈ row, c < 20) ∧ ExB R H5 H' ∧ RowV H' R S ∧ H' D2 = some (.lst (row.map vN)))
      ?_ (fun j H' hj hpv2 => ?_) (fun H' hpv2 => ?_)
    · have hD2R : D2 ≠ R := by
        obtain ⟨xs, hx⟩ := hrv5.some
        exact (ne_of_none hx hD2).symm
      exact ⟨[], rfl, (fun _ h => nomatch h), ExB.of (Evl.Ex.new hD2), hrv5.upd hD2R, upd_same⟩
    · obtain ⟨row, hrl, hrc, ebr, hrvr, hDr⟩ := hpv2
      have hD2R : D2 ≠ R := by
        obtain ⟨xs, hx⟩ := hrv5.some
        exact (ne_of_none hx hD2).symm
      refine ⟨wipe_one, [], true, sd_nil, rfl, fun H6 e6 => ?_⟩
      dsimp only
      rw [if_pos rfl]
      refine ⟨_, rfl, R, S, 20, rfl, by omega, by omega, ⟨(hsc5.exb ebr).exb (ExB.of e6), hrvr.ex e6⟩, fun c H7 hc e7 hrow7 => ?_⟩
      have hD7 := e7 _ _ hD2R (e6 _ _ hDr)
      refine ⟨_, hD7, ?_, row ++ [c], by rw [List.length_append, hrl]; rfl, fun x hx => ?_, ?_, hrow7.2.upd hD2R, by rw [upd_same, List.map_append]; rfl⟩
      · rw [List.length_map]
        exact small1000 (by omega)
      · rcases List.mem_append.mp hx with hx | hx
        · exact hrc x hx
        · rw [List.mem_singleton] at hx
          omega
      · intro b o hbR hb
        rw [upd_ne (ne_of_none hb hD2)]
        exact e7 _ _ hbR (e6 _ _ (ebr _ _ hbR hb))
    · obtain ⟨row, hrl, hrc, ebr, hrvr, hDr⟩ := hpv2
      refine ⟨D2, _, rfl, .inl ⟨.inl (.inl hDr), fun T hT => ?_⟩⟩
      have eT : Ex H' (upd H' T (.tup (row.map vN))) := Evl.Ex.new hT
      have hDa8 := ebr _ _ hDR hDa5
      have hlen := dps_len hda5
      rw [List.length_map] at hlen
      refine ⟨acc, eT _ _ hDa8, small1000 (by omega), css ++ [row], acc ++ [.ref T], by rw [List.length_append, hl]; rfl, fun r hr' => ?_, ?_, (hrvr.ex eT).upd hDR, upd_same, ?_⟩
      · rcases List.mem_append.mp hr' with hr' | hr'
        · exact hcs r hr'
        · rw [List.mem_singleton] at hr'
          subst hr'
          exact ⟨by omega, by omega, fun c hc => by have := hrc c hc; omega⟩
      · intro b o hbR hb
        have hbD : b ≠ D := ne_of_none hb (Evl.fresh_back e3 hD)
        rw [upd_ne hbD]
        exact eT _ _ (ebr _ _ hbR (e5 _ _ hbR (eb4 _ _ hbR hb)))
      · rw [List.map_append]
        refine dps_td (ext_upd (eT _ _ hDa8)) _ _ ?_ (dps_app (dps_ex eT (dps_td (hrv5.ext ebr) _ _ (noLs_dLs css) hda5)) (dps_one (dp_tup_at upd_same (dps_nats _))))
        rw [← List.map_append (f := dL) (l₂ := [row])]
        exact noLs_dLs _
  obtain ⟨cs, acc, hcl, hcs, eb, hrv, hDa, hda⟩ := hpv
  refine ⟨D, acc, rfl, .inl ⟨.inl (.inl hDa), fun T hT => ?_⟩⟩
  have eT : Ex H' (upd H' T (.tup acc)) := Evl.Ex.new hT
  have hv3 : Dp K (upd H' T (.tup acc)) (.ref T) (dLay cs) := dp_tup_at upd_same (dps_ex eT hda)
  have okc : CostsOk n cs := ⟨hcl, fun r hr => ⟨(hcs r hr).1, (hcs r hr).2.1⟩, fun r hr => (hcs r hr).2.2⟩
  have eb9 : ExB R H2 (upd H' T (.tup acc)) := eb.trans (ExB.of eT)
  have hrv9 := hrv.ex eT
  generalize upd H' T (.tup acc) = H9 at hv3 eb9 hrv9 ⊢
  have hv2 : Dp K H9 v2 (dHouse n ds) := dp_td (hrv2.ext eb9) _ _ (noL_house n ds) hv2
  -- the plain laws of this house and these costs
  obtain ⟨hch1, hch2⟩ := cheap_ok (ds := ds) okc.len
  have hall := least_all (ds := ds) okc.len
  generalize hlst : leastF (nearF n ds) cs n (List.range n) 0 = lst at hch2 hall
  generalize hchs : stateF n (chF (nearF n ds) cs n (List.range n) 0) = chs at hch1 hch2
  have hL0 : restsF n ds ≠ [] := fun e => by rw [e] at hch1; cases hch1
  have hleast : minDs ((restsF n ds).map fun r => dN (costF cs r)) = dN lst := by
    have := minDs_nats (ns := (restsF n ds).map (costF cs)) (m := lst) (List.mem_map.mpr ⟨chs, hch1, hch2⟩) (fun x hx => by
      obtain ⟨r, hr', rfl⟩ := List.mem_map.mp hx
      exact hall r hr')
    rw [List.map_map] at this
    exact this
  have hLn : (restsF n ds).length ≤ sizeLine := restsF_len n6
  have costR : ∀ r ∈ restsF n ds, gLawCost [dLay cs, dL r] (dN (costF cs r)) := fun r hr' => ⟨n, cs, r, rfl, okc, by omega, rests_len hr', rfl⟩
  -- _law_some
  refine asg_D (sd_skip (sd_skip (sd_cons hv2 sd_nil))) ⟨_, ⟨_, ⟨_, _, rfl, rfl, rfl⟩, ⟨n, ds, rfl, ok, n6, rfl⟩⟩, rfl⟩ fun v4 Ha ea hv4 => ?_
  -- _law_least
  refine asg_D (sd_skip (sd_skip (sd_skip (sd_cons (dp_ex ea hv3) (sd_cons hv4 (sd_skip (sd_skip (sd_skip (sd_skip (sd_skip (sd_skip (sd_skip (sd_skip (sd_skip sd_nil)))))))))))))) ⟨_, ⟨_, _, ⟨_, ⟨List Nat, restsF n ds, dL, fun _ => true, fun r => dN (costF cs r), rfl, ⟨hLn, fun _ _ => rfl, fun r hr' _ => ⟨rfl, ⟨_, ⟨_, _, rfl, ⟨_, _, rfl, rfl, rfl⟩, rfl⟩, costR r hr'⟩⟩⟩, rfl⟩, rfl⟩, rfl, rfl⟩, gMin_nats hL0 hleast⟩ fun v6 Hb eb6 hv6 => ?_
  have eab : Ex H9 Hb := ea.trans eb6
  -- alike
  refine if_D false (sd_skip (sd_skip (sd_cons (dp_ex eab hv2) (sd_cons (dp_ex eab hv3) (sd_skip (sd_skip (sd_cons hv6 sd_nil))))))) ⟨true, ⟨_, ⟨_, _, ⟨_, ⟨_, _, rfl, ⟨_, _, rfl, rfl, rfl⟩, rfl⟩, ⟨n, ds, cs, rfl, ok, n6, okc, rfl⟩⟩, ⟨_, _, rfl, rfl, rfl⟩, rfl⟩, ⟨dN lst, by rw [hlst], .inl ⟨_, rfl⟩, rfl⟩⟩, rfl⟩ (fun h => nomatch h) (fun _ Hc ec => ?_)
  have eac : Ex H9 Hc := eab.trans ec
  -- cheapest
  refine asg_D (sd_skip (sd_skip (sd_cons (dp_ex eac hv2) (sd_cons (dp_ex eac hv3) sd_nil)))) ⟨_, ⟨_, _, rfl, ⟨_, _, rfl, rfl, rfl⟩, rfl⟩, ⟨n, ds, cs, rfl, ok, n6, okc, rfl⟩⟩ fun v5 Hd ed hv5 => ?_
  rw [hchs] at hv5
  have ead : Ex H9 Hd := eac.trans ed
  have hv4d := dp_ex ((eb6.trans ec).trans ed) hv4
  refine if_D false (sd_skip (sd_skip (sd_skip (sd_cons (dp_ex ead hv3) (sd_cons hv4d (sd_cons hv5 (sd_cons (dp_ex (ec.trans ed) hv6) sd_nil))))))) ⟨false, ⟨_, _, rfl, rfl, ⟨_, rfl, shaped_dL _, shaped_rests _, by rw [in_rests hch1]; rfl⟩⟩, ⟨_, _, ⟨_, ⟨_, _, rfl, ⟨_, _, rfl, rfl, rfl⟩, rfl⟩, costR chs hch1⟩, rfl, by rw [hch2]; exact gNe_int _⟩⟩ (fun h => nomatch h) (fun _ He ee => ?_)
  have eae : Ex H9 He := ead.trans ee
  -- the parted state
  refine ⟨_, rfl, v2, rfl, R, S, v2, n, ds, rfl, ⟨(hsc2.exb eb9).exb (ExB.of eae), hrv9.ex eae⟩, dp_ex eae hv2, ok, n6, fun st v7 Hf okst hpt ebf hrowf hv7 => ?_⟩
  have hrve := hrv9.ex eae
  have hT := hrve.ext (K := K) ebf
  have hv2f : Dp K Hf v2 (dHouse n ds) := dp_td hT _ _ (noL_house n ds) (dp_ex eae hv2)
  have hv3f : Dp K Hf (.ref T) (dLay cs) := dp_td hT _ _ (noL_dLay cs) (dp_ex eae hv3)
  have hv4f := rests_row hrve ebf (dp_ex ee hv4d)
  obtain rfl := dp_int hv6
  -- _law_below
  refine asg_D (sd_skip (sd_skip (sd_cons hv2f (sd_skip (sd_skip (sd_skip (sd_skip (sd_cons hv7 sd_nil)))))))) ⟨_, ⟨_, ⟨_, _, rfl, ⟨_, _, rfl, rfl, rfl⟩, rfl⟩, ⟨n, ds, st, rfl, ok, n6, okst, hpt, rfl⟩⟩, rfl⟩ fun v8 Hg eg hv8 => ?_
  have hU0 := under_ne ok hpt
  have hUL : ∀ r ∈ underF n ds st, r ∈ restsF n ds := fun r hr' => under_rests hr'
  obtain ⟨bst, t, hb1, hb2, hb3, hb4⟩ := minDs_pairs (costF cs) hU0
  have hbest : minDs ((underF n ds st).map fun r => dN (costF cs r)) = dN bst := by
    have := minDs_nats hb1 hb2
    rw [List.map_map] at this
    exact this
  -- _law_best
  refine asg_D (sd_skip (sd_skip (sd_skip (sd_cons (dp_ex eg hv3f) (sd_skip (sd_skip (sd_skip (sd_skip (sd_cons hv8 (sd_skip (sd_skip (sd_skip (sd_skip (sd_skip sd_nil)))))))))))))) ⟨_, ⟨_, _, ⟨_, ⟨List Nat, underF n ds st, dL, fun _ => true, fun r => dN (costF cs r), rfl, ⟨underF_len n6, fun _ _ => rfl, fun r hr' _ => ⟨rfl, ⟨_, ⟨_, _, rfl, ⟨_, _, rfl, rfl, rfl⟩, rfl⟩, costR r (hUL r hr')⟩⟩⟩, rfl⟩, rfl⟩, rfl, rfl⟩, gMin_nats hU0 hbest⟩ fun v9 Hh eh hv9 => ?_
  have egh : Ex Hf Hh := eg.trans eh
  have hfil : (underF n ds st).filter (fun r => decide (costF cs r = bst)) ≠ [] := fun e => by
    obtain ⟨r, hr', er⟩ := List.mem_map.mp hb1
    have : r ∈ (underF n ds st).filter (fun r => decide (costF cs r = bst)) := List.mem_filter.mpr ⟨hr', decide_eq_true er⟩
    rw [e] at this
    cases this
  -- alike
  refine if_D false (sd_skip (sd_skip (sd_cons (dp_ex egh hv2f) (sd_cons (dp_ex egh hv3f) (sd_skip (sd_skip (sd_skip (sd_cons (dp_ex egh hv7) (sd_cons (dp_ex eh hv8) (sd_cons hv9 (sd_skip (sd_skip (sd_skip (sd_skip sd_nil)))))))))))))) ⟨true, ⟨_, ⟨_, _, ⟨_, ⟨_, _, rfl, ⟨_, _, rfl, ⟨_, _, rfl, rfl, rfl⟩, rfl⟩, rfl⟩, ⟨n, ds, st, cs, rfl, ok, n6, okst, hpt, okc, hU0, rfl⟩⟩, ⟨dCR bst t, _, ⟨_, ⟨_, _, rfl, ⟨_, _, ⟨_, ⟨_, _, ⟨_, ⟨List Nat, underF n ds st, dL, fun r => decide (costF cs r = bst), dL, rfl, ⟨underF_len n6, fun r hr' => ⟨_, _, ⟨_, ⟨_, _, rfl, ⟨_, _, rfl, rfl, rfl⟩, rfl⟩, costR r (hUL r hr')⟩, rfl, gEq_nat _ _⟩, fun r _ _ => ⟨noL_dL r, rfl⟩⟩, rfl⟩, rfl⟩, rfl, rfl⟩, gMin_rows hfil hb4⟩, rfl, rfl⟩, rfl⟩, (by show 2 ≤ sizeLine; decide), rfl⟩, rfl, rfl⟩, rfl⟩, ⟨dCR bst t, by rw [hb3], .inr ⟨_, rfl, (by show 2 ≤ 1000; decide), fun x hx => ?_⟩, rfl⟩⟩, rfl⟩ (fun h => nomatch h) (fun _ Hi ei => ?_)
  · rcases List.mem_cons.mp hx with rfl | hx
    · exact .inl ⟨_, rfl⟩
    · rw [List.mem_singleton] at hx
      subst hx
      refine .inr ⟨_, rfl, ?_, fun y hy => ?_⟩
      · have hin := minDs_in (ds := ((underF n ds st).filter fun r => decide (costF cs r = bst)).map dL) (fun e => hfil (List.map_eq_nil_iff.mp e))
        rw [hb4] at hin
        obtain ⟨r, hr', er⟩ := List.mem_map.mp hin
        have hlr := rests_len (hUL r (List.mem_filter.mp hr').1)
        have er : r.map dN = t.map dN := by
          injection er
        rw [← er, List.length_map]
        omega
      · obtain ⟨z, _, rfl⟩ := List.mem_map.mp hy
        exact ⟨_, rfl⟩
  have efi : Ex Hf Hi := egh.trans ei
  obtain rfl := dp_int hv9
  -- costs 0 to 7
  refine asg_D (d := dLay (plainC n)) (sd_skip (sd_skip (sd_cons (dp_ex efi hv2f) sd_nil))) ⟨_, _, ⟨_, ⟨_, _, ⟨8, rfl, by decide, rfl⟩, rfl, rfl⟩, (by show 1 ≤ sizeLine; decide), rfl⟩, ⟨_, _, rfl, rfl, ⟨_, 0, .inr rfl, rfl, rfl⟩⟩, ⟨dL (List.range 8), n, rfl, rfl, n1, by omega, by unfold dLay plainC; rw [List.map_replicate]⟩⟩ fun v10 Hj ej hv10 => ?_
  obtain ⟨hp1, hp2⟩ := cheap_ok (ds := ds) (plain_ok n).len
  have hpall := least_all (ds := ds) (plain_ok n).len
  generalize hpl : leastF (nearF n ds) (plainC n) n (List.range n) 0 = plst at hp2 hpall
  have hplain : minDs ((restsF n ds).map fun r => dN r.sum) = dN plst := by
    have := minDs_nats (ns := (restsF n ds).map List.sum) (m := plst) (List.mem_map.mpr ⟨_, hp1, by rw [← plain_cost n6 hp1]; exact hp2⟩) (fun x hx => by
      obtain ⟨r, hr', rfl⟩ := List.mem_map.mp hx
      rw [← plain_cost n6 hr']
      exact hpall r hr')
    rw [List.map_map] at this
    exact this
  have hge : lst ≤ bst := by
    obtain ⟨r, hr', er⟩ := List.mem_map.mp hb1
    rw [← er]
    exact hall r (hUL r hr')
  have hgeT := gGe_nat bst lst
  rw [decide_eq_true hge] at hgeT
  have heq := gEq_nat plst plst
  rw [decide_eq_true rfl] at heq
  have efj : Ex Hf Hj := efi.trans ej
  refine ret_D (d := .bool true) (sd_skip (sd_skip (sd_cons (dp_ex efj hv2f) (sd_skip (sd_cons (dp_ex efj hv4f) (sd_skip (sd_cons (.int _) (sd_skip (sd_skip (sd_cons (.int _) (sd_cons hv10 (sd_skip (sd_skip (sd_skip sd_nil)))))))))))))) ⟨true, ⟨_, _, ⟨_, ⟨_, _, rfl, ⟨_, _, rfl, rfl, rfl⟩, rfl⟩, ⟨n, ds, plainC n, rfl, ok, n6, plain_ok n, rfl⟩⟩, ⟨_, ⟨_, _, ⟨_, ⟨List Nat, restsF n ds, dL, fun _ => true, fun r => dN r.sum, rfl, ⟨hLn, fun _ _ => rfl, fun r _ _ => ⟨rfl, ⟨_, ⟨_, _, rfl, rfl, rfl⟩, sum_rows r⟩⟩⟩, rfl⟩, rfl⟩, rfl, rfl⟩, gMin_nats hL0 hplain⟩, by rw [hpl]; exact heq⟩, ⟨_, _, rfl, rfl, hgeT⟩⟩ fun v Hk ek hv => ?_
  rw [dp_bool hv]
  exact q Hk
end
end Mx
/-! J: all defs together. -/
namespace Mx
open PySem PySem.Spec PyProof.Rows L2
theorem def_mk {K : PySem.W.Frag} {h : Heap} {mg : Str → Option Value} (X : K.In h) (G : h.Ns mainGlobals mg) {x : Str} {st : Stmt} {ps : List Str} {f : Addr} {oc : Value} {od an : Option Addr} {osl : Array (Option Value)} {kV doc pm cdv ct : Value}
    (hb : ∀ fd : FuncData, Fun K x x st f fd → Binds K fd ps [])
    (a : PySem.W.nsIn K mainGlobals x = some (some (.ref f))) (l : K.lookup f = some ⟨oc, od, .func (PySem.W.fnOf x x (defArgs st) (defBody st) (defScope st) .none kV doc pm an cdv ct), osl⟩) (c : PySem.W.codeIn K cdv x = true) (k : PySem.W.keepIn K (.ref f) = true) : DefAt K mg x st ps :=
  let F := fun_mk (st := st) l c k
  ⟨f, _, F, PySem.W.mg_of X G a, hb _ F⟩

/-- what the top has written -/
structure Tab (K : PySem.W.Frag) (mg : Str → Option Value) : Prop where
  d_is_integer : DefAt K mg "is_integer" (topS 1) ["value"]
  d_is_in : DefAt K mg "is_in" (topS 2) ["value", "least", "most"]
  d_is_list : DefAt K mg "is_list" (topS 3) ["value", "least", "most"]
  d_need_doors : DefAt K mg "need_doors" (topS 12) ["size", "doors"]
  d_need_house : DefAt K mg "need_house" (topS 13) ["house"]
  d_near : DefAt K mg "near" (topS 14) ["house"]
  d_need_numbers : DefAt K mg "need_numbers" (topS 17) ["house", "state"]
  d_need_state : DefAt K mg "need_state" (topS 18) ["house", "state"]
  d_like_in : DefAt K mg "like_in" (topS 19) ["house", "state"]
  d_need_parted : DefAt K mg "need_parted" (topS 20) ["house", "state"]
  d_largest_in : DefAt K mg "largest_in" (topS 22) ["rows", "rooms"]
  d_is_largest : DefAt K mg "is_largest" (topS 23) ["rows", "rooms", "some"]
  d_layers_from : DefAt K mg "layers_from" (topS 24) ["rows", "rooms", "known"]
  d_state_of : DefAt K mg "state_of" (topS 25) ["size", "layers"]
  d_all_rests : DefAt K mg "all_rests" (topS 26) ["house"]
  d_rests : DefAt K mg "rests" (topS 27) ["house"]
  d_below_in : DefAt K mg "below_in" (topS 29) ["rows", "rooms", "state", "level"]
  d_rests_under : DefAt K mg "rests_under" (topS 30) ["house", "state"]
  d_rests_below : DefAt K mg "rests_below" (topS 31) ["house", "state"]
  d_need_costs : DefAt K mg "need_costs" (topS 34) ["house", "costs"]
  d_cost_in : DefAt K mg "cost_in" (topS 35) ["row", "number"]
  d_cost_of : DefAt K mg "cost_of" (topS 36) ["costs", "state"]
  d_least_from : DefAt K mg "least_from" (topS 37) ["rows", "rooms", "level", "costs", "known"]
  d_least_cost : DefAt K mg "least_cost" (topS 38) ["house", "costs"]
  d_cheapest : DefAt K mg "cheapest" (topS 39) ["house", "costs"]
  d_cheapest_below : DefAt K mg "cheapest_below" (topS 40) ["house", "state", "costs"]
  d__law_taken : DefAt K mg "_law_taken" (topS 42) ["_law_row", "_law_many"]
  d__law_pick : DefAt K mg "_law_pick" (topS 43) ["_law_row", "_law_things"]
  d__law_alike : DefAt K mg "_law_alike" (topS 44) ["_law_found", "_law_due"]
  d__law_house : DefAt K mg "_law_house" (topS 45) ["_law_row", "_law_most"]
  d__law_near : DefAt K mg "_law_near" (topS 46) ["_law_house_here"]
  d__law_parted : DefAt K mg "_law_parted" (topS 47) ["_law_row", "_law_house_here", "_law_top"]
  d__law_cost : DefAt K mg "_law_cost" (topS 48) ["_law_costs", "_law_rest"]
  b_isinstance : mg "isinstance" = none
  b_int : mg "int" = none
  b_bool : mg "bool" = none
  b_tuple : mg "tuple" = none
  b_list : mg "list" = none
  b_str : mg "str" = none
  b_len : mg "len" = none
  b_all : mg "all" = none
  b_any : mg "any" = none
  b_sum : mg "sum" = none
  b_min : mg "min" = none
  b_sorted : mg "sorted" = none
  b_range : mg "range" = none
  b_enumerate : mg "enumerate" = none
  b_zip : mg "zip" = none
  g_MOST_ROOMS : ∃ t, mg "MOST_ROOMS" = some (.int 8 t)
  g_MOST_NUMBER : ∃ t, mg "MOST_NUMBER" = some (.int 60 t)
  g_MOST_COST : ∃ t, mg "MOST_COST" = some (.int 99 t)
theorem law_all {P : Program} {w : World} {K : PySem.W.Frag} {mg : Str → Option Value} {base : Heap} (T : Tab K mg) {f : Addr} {fd : FuncData} (D : Fun K "law" "law" sLaw f fd) : FnOk P w K mg base CX0 12 f fd ["_law_script"] (spLaw K) := by
  have is_integer := ok_is_integer (P := P) (w := w) (base := base) T.d_is_integer T.b_isinstance T.b_int T.b_bool
  have is_in := ok_is_in T.d_is_in is_integer
  have is_list := ok_is_list (P := P) (w := w) (base := base) T.d_is_list T.b_isinstance T.b_tuple T.b_len
  have need_doors := ok_need_doors T.d_need_doors T.b_enumerate T.b_all T.g_MOST_ROOMS is_list is_in
  have need_house := ok_need_house T.d_need_house T.g_MOST_ROOMS is_list is_in need_doors
  have need_numbers := ok_need_numbers T.d_need_numbers T.b_enumerate T.g_MOST_NUMBER is_list is_in
  have need_state := ok_need_state T.d_need_state need_house need_numbers
  have like_in := ok_like_in (P := P) (w := w) (base := base) T.d_like_in
  have need_parted := ok_need_parted T.d_need_parted need_state like_in
  have near := ok_near (P := P) (w := w) (base := base) T.d_near T.b_range T.b_sorted
  have law_near := ok_law_near (P := P) (w := w) (base := base) T.d__law_near T.b_range
  have is_largest := ok_is_largest (P := P) (w := w) (base := base) T.d_is_largest T.b_all T.b_any
  have largest_in := ok_largest_in T.d_largest_in T.b_sorted T.b_any is_largest
  have state_of := ok_state_of (P := P) (w := w) (base := base) T.d_state_of T.b_enumerate T.b_tuple
  have layers_from := ok_layers_from T.d_layers_from T.b_tuple largest_in 6 (Nat.le_refl _)
  have all_rests := ok_all_rests T.d_all_rests T.b_sorted T.b_tuple T.b_range near layers_from state_of
  have rests := ok_rests T.d_rests need_house all_rests
  have below_in := ok_below_in T.d_below_in T.b_tuple T.b_all largest_in 6 (Nat.le_refl _)
  have rests_under := ok_rests_under T.d_rests_under T.b_sorted T.b_tuple T.b_range near below_in
  have rests_below := ok_rests_below T.d_rests_below need_parted rests_under
  have need_costs := ok_need_costs T.d_need_costs T.b_enumerate T.b_all T.g_MOST_COST is_list is_in
  have cost_in := ok_cost_in (P := P) (w := w) (base := base) T.d_cost_in T.b_min T.b_len
  have cost_of := ok_cost_of T.d_cost_of T.b_sum T.b_zip cost_in
  have least_from := ok_least_from T.d_least_from T.b_tuple T.b_sum largest_in cost_in 6 (Nat.le_refl _)
  have least_cost := ok_least_cost T.d_least_cost T.b_tuple T.b_range need_house need_costs near least_from
  have cheapest := ok_cheapest T.d_cheapest T.b_tuple T.b_range T.b_sum need_house need_costs near least_from largest_in cost_in
  have cheapest_below := ok_cheapest_below T.d_cheapest_below T.b_min need_parted need_costs rests_under cost_of
  have taken := ok_taken (P := P) (w := w) (base := base) T.d__law_taken T.b_int T.b_len
  have pick := ok_pick T.d__law_pick T.b_len taken
  have law_house := ok_law_house T.d__law_house T.b_range T.b_tuple taken
  have law_parted := ok_law_parted T.d__law_parted T.b_range T.b_tuple T.b_len law_near pick
  have law_cost := ok_law_cost (P := P) (w := w) (base := base) T.d__law_cost T.b_sum T.b_min T.b_len T.b_range
  have alike := ok_alike (P := P) (w := w) (base := base) T.d__law_alike T.b_isinstance T.b_tuple T.b_list T.b_len T.b_range T.b_str T.b_int T.b_bool 2
  exact ok_law D T.b_tuple T.b_range T.b_min T.b_sum law_house taken rests law_cost alike least_cost cheapest law_parted rests_below cheapest_below
abbrev KDef {K : PySem.W.Frag} {h : Heap} (_ : K.In h) (mg : Str → Option Value) (x : Str) (st : Stmt) (ps : List Str) : Prop := DefAt K mg x st ps
abbrev KTab {K : PySem.W.Frag} {h : Heap} (_ : K.In h) (mg : Str → Option Value) : Prop := Tab K mg
theorem law_end {l : PySem.W.OpenLaw} {w : World} {K : PySem.W.Frag} {h : Heap} {mg : Str → Option Value} {fa f : Addr} (X : K.In h) (G : h.Ns mainGlobals mg) (hfa : mg "law" = some (.ref fa)) (T : Tab K mg) {oc : Value} {od an : Option Addr} {osl : Array (Option Value)} {kV doc pm cdv ct : Value}
    (a : PySem.W.nsIn K mainGlobals "law" = some (some (.ref f))) (lk : K.lookup f = some ⟨oc, od, .func (PySem.W.fnOf "law" "law" (defArgs sLaw) (defBody sLaw) (defScope sLaw) .none kV doc pm an cdv ct), osl⟩) (c : PySem.W.codeIn K cdv "law" = true) (k : PySem.W.keepIn K (.ref f) = true) :
    ∃ fd : FuncData, (∀ (s : Shared) (v : Value), BindsTo s fd ⟨[v], []⟩ [("_law_script", v)]) ∧ ∀ base : Heap, K.In base → base.Ns mainGlobals mg → FnOk l.prog w K mg base CX0 12 fa fd ["_law_script"] (spLaw K) := by
  have e := hfa.symm.trans (PySem.W.mg_of X G a)
  cases e
  have F := fun_mk (st := sLaw) lk c k
  exact ⟨_, fun s v => .of_eq rfl, fun base _ _ => law_all T F⟩
end Mx
open PySem PySem.W PyProof.Rows
set_option maxHeartbeats 0 in
theorem PySem.Challenge.cw_mexrooms_k74_whole_costs_holds : PySem.Challenge.rw_mexrooms_k74_whole_costs.Holds := by
  w_on; o_law; k_head; (case hw => w_witness2)
  k_fill
  refine L2.walk_of (l := PySem.Challenge.rw_mexrooms_k74_whole_costs) (n := 63) (k := 12) (x := "_law_script") (CX := fun _ => L2.CX0) (sp := fun w => Mx.spLaw _) rfl (by decide) rfl ⟨rfl, by decide, by decide⟩ (fun w h Y => PySem.W.kIn_of Y) ?F (fun _ _ a ns _ _ hS => ⟨a, ns, rfl, hS, fun _ => rfl⟩) (fun _ _ _ _ _ h => h)
  case F =>
    intro w mg fa h KX G hmg
    have d_is_integer : Mx.KDef KX mg "is_integer" (Mx.topS 1) ["value"] := by
      refine' Mx.def_mk KX G (fun _ F => F.binds fun _ _ _ _ _ _ us hl => match us, hl with | [_], _ => rfl) ?a ?l ?c ?k
      (case a => k_is); (case l => k_is); (case c => k_is); (case k => k_is)
    have d_is_in : Mx.KDef KX mg "is_in" (Mx.topS 2) ["value", "least", "most"] := by
      refine' Mx.def_mk KX G (fun _ F => F.binds fun _ _ _ _ _ _ us hl => match us, hl with | [_, _, _], _ => rfl) ?a ?l ?c ?k
      (case a => k_is); (case l => k_is); (case c => k_is); (case k => k_is)
    have d_is_list : Mx.KDef KX mg "is_list" (Mx.topS 3) ["value", "least", "most"] := by
      refine' Mx.def_mk KX G (fun _ F => F.binds fun _ _ _ _ _ _ us hl => match us, hl with | [_, _, _], _ => rfl) ?a ?l ?c ?k
      (case a => k_is); (case l => k_is); (case c => k_is); (case k => k_is)
    have d_need_doors : Mx.KDef KX mg "need_doors" (Mx.topS 12) ["size", "doors"] := by
      refine' Mx.def_mk KX G (fun _ F => F.binds fun _ _ _ _ _ _ us hl => match us, hl with | [_, _], _ => rfl) ?a ?l ?c ?k
      (case a => k_is); (case l => k_is); (case c => k_is); (case k => k_is)
    have d_need_house : Mx.KDef KX mg "need_house" (Mx.topS 13) ["house"] := by
      refine' Mx.def_mk KX G (fun _ F => F.binds fun _ _ _ _ _ _ us hl => match us, hl with | [_], _ => rfl) ?a ?l ?c ?k
      (case a => k_is); (case l => k_is); (case c => k_is); (case k => k_is)
    have d_near : Mx.KDef KX mg "near" (Mx.topS 14) ["house"] := by
      refine' Mx.def_mk KX G (fun _ F => F.binds fun _ _ _ _ _ _ us hl => match us, hl with | [_], _ => rfl) ?a ?l ?c ?k
      (case a => k_is); (case l => k_is); (case c => k_is); (case k => k_is)
    have d_need_numbers : Mx.KDef KX mg "need_numbers" (Mx.topS 17) ["house", "state"] := by
      refine' Mx.def_mk KX G (fun _ F => F.binds fun _ _ _ _ _ _ us hl => match us, hl with | [_, _], _ => rfl) ?a ?l ?c ?k
      (case a => k_is); (case l => k_is); (case c => k_is); (case k => k_is)
    have d_need_state : Mx.KDef KX mg "need_state" (Mx.topS 18) ["house", "state"] := by
      refine' Mx.def_mk KX G (fun _ F => F.binds fun _ _ _ _ _ _ us hl => match us, hl with | [_, _], _ => rfl) ?a ?l ?c ?k
      (case a => k_is); (case l => k_is); (case c => k_is); (case k => k_is)
    have d_like_in : Mx.KDef KX mg "like_in" (Mx.topS 19) ["house", "state"] := by
      refine' Mx.def_mk KX G (fun _ F => F.binds fun _ _ _ _ _ _ us hl => match us, hl with | [_, _], _ => rfl) ?a ?l ?c ?k
      (case a => k_is); (case l => k_is); (case c => k_is); (case k => k_is)
    have d_need_parted : Mx.KDef KX mg "need_parted" (Mx.topS 20) ["house", "state"] := by
      refine' Mx.def_mk KX G (fun _ F => F.binds fun _ _ _ _ _ _ us hl => match us, hl with | [_, _], _ => rfl) ?a ?l ?c ?k
      (case a => k_is); (case l => k_is); (case c => k_is); (case k => k_is)
    have d_largest_in : Mx.KDef KX mg "largest_in" (Mx.topS 22) ["rows", "rooms"] := by
      refine' Mx.def_mk KX G (fun _ F => F.binds fun _ _ _ _ _ _ us hl => match us, hl with | [_, _], _ => rfl) ?a ?l ?c ?k
      (case a => k_is); (case l => k_is); (case c => k_is); (case k => k_is)
    have d_is_largest : Mx.KDef KX mg "is_largest" (Mx.topS 23) ["rows", "rooms", "some"] := by
      refine' Mx.def_mk KX G (fun _ F => F.binds fun _ _ _ _ _ _ us hl => match us, hl with | [_, _, _], _ => rfl) ?a ?l ?c ?k
      (case a => k_is); (case l => k_is); (case c => k_is); (case k => k_is)
    have d_layers_from : Mx.KDef KX mg "layers_from" (Mx.topS 24) ["rows", "rooms", "known"] := by
      refine' Mx.def_mk KX G (fun _ F => F.binds fun _ _ _ _ _ _ us hl => match us, hl with | [_, _, _], _ => rfl) ?a ?l ?c ?k
      (case a => k_is); (case l => k_is); (case c => k_is); (case k => k_is)
    have d_state_of : Mx.KDef KX mg "state_of" (Mx.topS 25) ["size", "layers"] := by
      refine' Mx.def_mk KX G (fun _ F => F.binds fun _ _ _ _ _ _ us hl => match us, hl with | [_, _], _ => rfl) ?a ?l ?c ?k
      (case a => k_is); (case l => k_is); (case c => k_is); (case k => k_is)
    have d_all_rests : Mx.KDef KX mg "all_rests" (Mx.topS 26) ["house"] := by
      refine' Mx.def_mk KX G (fun _ F => F.binds fun _ _ _ _ _ _ us hl => match us, hl with | [_], _ => rfl) ?a ?l ?c ?k
      (case a => k_is); (case l => k_is); (case c => k_is); (case k => k_is)
    have d_rests : Mx.KDef KX mg "rests" (Mx.topS 27) ["house"] := by
      refine' Mx.def_mk KX G (fun _ F => F.binds fun _ _ _ _ _ _ us hl => match us, hl with | [_], _ => rfl) ?a ?l ?c ?k
      (case a => k_is); (case l => k_is); (case c => k_is); (case k => k_is)
    have d_below_in : Mx.KDef KX mg "below_in" (Mx.topS 29) ["rows", "rooms", "state", "level"] := by
      refine' Mx.def_mk KX G (fun _ F => F.binds fun _ _ _ _ _ _ us hl => match us, hl with | [_, _, _, _], _ => rfl) ?a ?l ?c ?k
      (case a => k_is); (case l => k_is); (case c => k_is); (case k => k_is)
    have d_rests_under : Mx.KDef KX mg "rests_under" (Mx.topS 30) ["house", "state"] := by
      refine' Mx.def_mk KX G (fun _ F => F.binds fun _ _ _ _ _ _ us hl => match us, hl with | [_, _], _ => rfl) ?a ?l ?c ?k
      (case a => k_is); (case l => k_is); (case c => k_is); (case k => k_is)
    have d_rests_below : Mx.KDef KX mg "rests_below" (Mx.topS 31) ["house", "state"] := by
      refine' Mx.def_mk KX G (fun _ F => F.binds fun _ _ _ _ _ _ us hl => match us, hl with | [_, _], _ => rfl) ?a ?l ?c ?k
      (case a => k_is); (case l => k_is); (case c => k_is); (case k => k_is)
    have d_need_costs : Mx.KDef KX mg "need_costs" (Mx.topS 34) ["house", "costs"] := by
      refine' Mx.def_mk KX G (fun _ F => F.binds fun _ _ _ _ _ _ us hl => match us, hl with | [_, _], _ => rfl) ?a ?l ?c ?k
      (case a => k_is); (case l => k_is); (case c => k_is); (case k => k_is)
    have d_cost_in : Mx.KDef KX mg "cost_in" (Mx.topS 35) ["row", "number"] := by
      refine' Mx.def_mk KX G (fun _ F => F.binds fun _ _ _ _ _ _ us hl => match us, hl with | [_, _], _ => rfl) ?a ?l ?c ?k
      (case a => k_is); (case l => k_is); (case c => k_is); (case k => k_is)
    have d_cost_of : Mx.KDef KX mg "cost_of" (Mx.topS 36) ["costs", "state"] := by
      refine' Mx.def_mk KX G (fun _ F => F.binds fun _ _ _ _ _ _ us hl => match us, hl with | [_, _], _ => rfl) ?a ?l ?c ?k
      (case a => k_is); (case l => k_is); (case c => k_is); (case k => k_is)
    have d_least_from : Mx.KDef KX mg "least_from" (Mx.topS 37) ["rows", "rooms", "level", "costs", "known"] := by
      refine' Mx.def_mk KX G (fun _ F => F.binds fun _ _ _ _ _ _ us hl => match us, hl with | [_, _, _, _, _], _ => rfl) ?a ?l ?c ?k
      (case a => k_is); (case l => k_is); (case c => k_is); (case k => k_is)
    have d_least_cost : Mx.KDef KX mg "least_cost" (Mx.topS 38) ["house", "costs"] := by
      refine' Mx.def_mk KX G (fun _ F => F.binds fun _ _ _ _ _ _ us hl => match us, hl with | [_, _], _ => rfl) ?a ?l ?c ?k
      (case a => k_is); (case l => k_is); (case c => k_is); (case k => k_is)
    have d_cheapest : Mx.KDef KX mg "cheapest" (Mx.topS 39) ["house", "costs"] := by
      refine' Mx.def_mk KX G (fun _ F => F.binds fun _ _ _ _ _ _ us hl => match us, hl with | [_, _], _ => rfl) ?a ?l ?c ?k
      (case a => k_is); (case l => k_is); (case c => k_is); (case k => k_is)
    have d_cheapest_below : Mx.KDef KX mg "cheapest_below" (Mx.topS 40) ["house", "state", "costs"] := by
      refine' Mx.def_mk KX G (fun _ F => F.binds fun _ _ _ _ _ _ us hl => match us, hl with | [_, _, _], _ => rfl) ?a ?l ?c ?k
      (case a => k_is); (case l => k_is); (case c => k_is); (case k => k_is)
    have d__law_taken : Mx.KDef KX mg "_law_taken" (Mx.topS 42) ["_law_row", "_law_many"] := by
      refine' Mx.def_mk KX G (fun _ F => F.binds fun _ _ _ _ _ _ us hl => match us, hl with | [_, _], _ => rfl) ?a ?l ?c ?k
      (case a => k_is); (case l => k_is); (case c => k_is); (case k => k_is)
    have d__law_pick : Mx.KDef KX mg "_law_pick" (Mx.topS 43) ["_law_row", "_law_things"] := by
      refine' Mx.def_mk KX G (fun _ F => F.binds fun _ _ _ _ _ _ us hl => match us, hl with | [_, _], _ => rfl) ?a ?l ?c ?k
      (case a => k_is); (case l => k_is); (case c => k_is); (case k => k_is)
    have d__law_alike : Mx.KDef KX mg "_law_alike" (Mx.topS 44) ["_law_found", "_law_due"] := by
      refine' Mx.def_mk KX G (fun _ F => F.binds fun _ _ _ _ _ _ us hl => match us, hl with | [_, _], _ => rfl) ?a ?l ?c ?k
      (case a => k_is); (case l => k_is); (case c => k_is); (case k => k_is)
    have d__law_house : Mx.KDef KX mg "_law_house" (Mx.topS 45) ["_law_row", "_law_most"] := by
      refine' Mx.def_mk KX G (fun _ F => F.binds fun _ _ _ _ _ _ us hl => match us, hl with | [_, _], _ => rfl) ?a ?l ?c ?k
      (case a => k_is); (case l => k_is); (case c => k_is); (case k => k_is)
    have d__law_near : Mx.KDef KX mg "_law_near" (Mx.topS 46) ["_law_house_here"] := by
      refine' Mx.def_mk KX G (fun _ F => F.binds fun _ _ _ _ _ _ us hl => match us, hl with | [_], _ => rfl) ?a ?l ?c ?k
      (case a => k_is); (case l => k_is); (case c => k_is); (case k => k_is)
    have d__law_parted : Mx.KDef KX mg "_law_parted" (Mx.topS 47) ["_law_row", "_law_house_here", "_law_top"] := by
      refine' Mx.def_mk KX G (fun _ F => F.binds fun _ _ _ _ _ _ us hl => match us, hl with | [_, _, _], _ => rfl) ?a ?l ?c ?k
      (case a => k_is); (case l => k_is); (case c => k_is); (case k => k_is)
    have d__law_cost : Mx.KDef KX mg "_law_cost" (Mx.topS 48) ["_law_costs", "_law_rest"] := by
      refine' Mx.def_mk KX G (fun _ F => F.binds fun _ _ _ _ _ _ us hl => match us, hl with | [_, _], _ => rfl) ?a ?l ?c ?k
      (case a => k_is); (case l => k_is); (case c => k_is); (case k => k_is)
    have b_isinstance : mg "isinstance" = none := by
      refine' PySem.W.mg_none_of KX G ?z
      (case z => k_is)
    have b_int : mg "int" = none := by
      refine' PySem.W.mg_none_of KX G ?z
      (case z => k_is)
    have b_bool : mg "bool" = none := by
      refine' PySem.W.mg_none_of KX G ?z
      (case z => k_is)
    have b_tuple : mg "tuple" = none := by
      refine' PySem.W.mg_none_of KX G ?z
      (case z => k_is)
    have b_list : mg "list" = none := by
      refine' PySem.W.mg_none_of KX G ?z
      (case z => k_is)
    have b_str : mg "str" = none := by
      refine' PySem.W.mg_none_of KX G ?z
      (case z => k_is)
    have b_len : mg "len" = none := by
      refine' PySem.W.mg_none_of KX G ?z
      (case z => k_is)
    have b_all : mg "all" = none := by
      refine' PySem.W.mg_none_of KX G ?z
      (case z => k_is)
    have b_any : mg "any" = none := by
      refine' PySem.W.mg_none_of KX G ?z
      (case z => k_is)
    have b_sum : mg "sum" = none := by
      refine' PySem.W.mg_none_of KX G ?z
      (case z => k_is)
    have b_min : mg "min" = none := by
      refine' PySem.W.mg_none_of KX G ?z
      (case z => k_is)
    have b_sorted : mg "sorted" = none := by
      refine' PySem.W.mg_none_of KX G ?z
      (case z => k_is)
    have b_range : mg "range" = none := by
      refine' PySem.W.mg_none_of KX G ?z
      (case z => k_is)
    have b_enumerate : mg "enumerate" = none := by
      refine' PySem.W.mg_none_of KX G ?z
      (case z => k_is)
    have b_zip : mg "zip" = none := by
      refine' PySem.W.mg_none_of KX G ?z
      (case z => k_is)
    have g_MOST_ROOMS : ∃ t, mg "MOST_ROOMS" = some (.int 8 t) := by
      apply Exists.intro
      refine' PySem.W.mg_of KX G ?z
      (case z => k_is)
    have g_MOST_NUMBER : ∃ t, mg "MOST_NUMBER" = some (.int 60 t) := by
      apply Exists.intro
      refine' PySem.W.mg_of KX G ?z
      (case z => k_is)
    have g_MOST_COST : ∃ t, mg "MOST_COST" = some (.int 99 t) := by
      apply Exists.intro
      refine' PySem.W.mg_of KX G ?z
      (case z => k_is)
    have T : Mx.KTab KX mg := ⟨d_is_integer, d_is_in, d_is_list, d_need_doors, d_need_house, d_near, d_need_numbers, d_need_state, d_like_in, d_need_parted, d_largest_in, d_is_largest, d_layers_from, d_state_of, d_all_rests, d_rests, d_below_in, d_rests_under, d_rests_below, d_need_costs, d_cost_in, d_cost_of, d_least_from, d_least_cost, d_cheapest, d_cheapest_below, d__law_taken, d__law_pick, d__law_alike, d__law_house, d__law_near, d__law_parted, d__law_cost, b_isinstance, b_int, b_bool, b_tuple, b_list, b_str, b_len, b_all, b_any, b_sum, b_min, b_sorted, b_range, b_enumerate, b_zip, g_MOST_ROOMS, g_MOST_NUMBER, g_MOST_COST⟩
    refine' Mx.law_end KX G hmg T ?a ?l ?c ?k
    (case a => k_is); (case l => k_is); (case c => k_is); (case k => k_is)
