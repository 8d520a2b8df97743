import PyProof.Rows.All
import Wide.All
import OpenK.AllK
import Wide.FinOn
import HandS.ForMost
import HandS.ForExc
import HandS.More
import HandS.Defaults
import HandS.TupAny
import HandS.IsInst
import HandS.Conv
import HandS.Strs
import HandS.Deep
import HandS.HeadHook1
import HandS.Style
import HandS.Walk
import HandS.Zip
import KE.GoesEnum
import HandS.TupMul
import HandS.Dict
import KE.KStateDown
import KE.KExcSuper
import KE.KNestM
import HandS.Head0
import HandS.Head1
import HandS.Head2
import HandS.HeadEnd
import HandS.HeadHook2
import HandS.HeadHook3
import HandS.HeadHook4
import KE.KIsAll
import KE.KTryMore
import HandS.ExcField
import PyProof.ReprRoads
import PyProof.ReprBulk
import PyProof.Rows.Digits
import KE.KIntText
import HandS.ExcInit
import PyProof.IsiBase
import KE.KExcIs
import HandS.Lambda
import KE.KExcHand
import HandS.NestedK
import HandS.EndBits
import PySem.Challenge.RW_putonlyif_k22_whole_steps_of_any_state
set_option Elab.async false
set_option linter.all false
set_option maxRecDepth 100000
set_option maxHeartbeats 0
namespace PK
open L2 PySem PySem.Spec PyProof.Rows
/-! ## heaps: all but the dicts stays -/
def Up (H H' : Hp) : Prop := ∀ a o, H a = some o → (∀ kvs, o = .dK kvs → kvs.length ≠ 4) → H' a = some o
theorem Up.refl (H : Hp) : Up H H := fun _ _ h _ => h
theorem Up.trans {H H1 H2 : Hp} (a : Up H H1) (b : Up H1 H2) : Up H H2 := fun c o h n => b c o (a c o h n) n
theorem up_of {H H' : Hp} (e : Same H H') : Up H H' := fun a o h _ => e a o h
theorem same_new {H : Hp} {p : Addr} {o : HO} (h : H p = none) : Same H (upd H p o) := fun a u e => by
  rw [upd_ne (ne_of_none e h)]
  exact e
section
variable {K : PySem.W.Frag} {H H' : Hp} {a : Addr} {xs : List V}
theorem up_l (e : Up H H') (h : SqL K H a xs) : SqL K H' a xs := by
  rcases h with (h | ⟨o, h⟩) | h
  · exact .inl (.inl (e _ _ h fun _ z => by cases z))
  · exact .inl (.inr ⟨o, e _ _ h fun _ z => by cases z⟩)
  · exact .inr h
theorem up_t (e : Up H H') (h : SqT K H a xs) : SqT K H' a xs := by
  rcases h with (h | ⟨o, h⟩) | h
  · exact .inl (.inl (e _ _ h fun _ z => by cases z))
  · exact .inl (.inr ⟨o, e _ _ h fun _ z => by cases z⟩)
  · exact .inr h
mutual
theorem dp_up (e : Up H H') : ∀ (d : PyData) (v : V), Dp K H v d → Dp K H' v d
  | .none, _, h => by
    cases h
    exact .non
  | .bool b, _, h => by
    cases h
    exact .bl b
  | .int i, _, h => by
    cases h
    exact .int i
  | .str x, _, h => by
    cases h
    exact .str x
  | .list ds, _, h => by
    cases h with
    | lst hs ha => exact .lst (up_l e hs) (dpa_up e ds _ ha)
  | .tuple ds, _, h => by
    cases h with
    | tup hs ha => exact .tup (up_t e hs) (dpa_up e ds _ ha)
  | .dict _, _, h => by cases h
theorem dpa_up (e : Up H H') : ∀ (ds : List PyData) (vs : List V), DpAll K H vs ds → DpAll K H' vs ds
  | [], _, h => by
    cases h
    exact .nil
  | d :: ds, _, h => by
    cases h with
    | cons h1 h2 => exact .cons (dp_up e d _ h1) (dpa_up e ds _ h2)
end
theorem dpa_len {vs : List V} {ds : List PyData} : ∀ (ds : List PyData) (vs : List V), DpAll K H vs ds → vs.length = ds.length
  | [], _, h => by
    cases h
    rfl
  | d :: ds, _, h => by
    cases h with
    | cons h1 h2 => exact congrArg Nat.succ (dpa_len (vs := vs) (ds := ds) ds _ h2)
theorem dpa_get : ∀ (ds : List PyData) (vs : List V) (j : Nat) (d : PyData), DpAll K H vs ds → ds[j]? = some d → ∃ v, vs[j]? = some v ∧ Dp K H v d
  | [], vs, j, d, h, e => by simp at e
  | x :: ds, _, 0, d, h, e => by
    cases h with
    | cons h1 h2 =>
      have q : x = d := by simpa using e
      subst q
      exact ⟨_, rfl, h1⟩
  | x :: ds, _, j + 1, d, h, e => by
    cases h with
    | cons h1 h2 => exact dpa_get ds _ j d h2 (by simpa using e)
theorem dpa_drop : ∀ {vs : List V} {ds : List PyData} (n : Nat), DpAll K H vs ds → DpAll K H (vs.drop n) (ds.drop n)
  | _, _, 0, h => h
  | _, [], n + 1, h => by
    cases h
    exact .nil
  | _, d :: ds, n + 1, h => by
    cases h with
    | cons h1 h2 => exact dpa_drop n h2
theorem dpa_take : ∀ {vs : List V} {ds : List PyData} (n : Nat), DpAll K H vs ds → DpAll K H (vs.take n) (ds.take n)
  | _, _, 0, h => .nil
  | _, [], n + 1, h => by
    cases h
    exact .nil
  | _, d :: ds, n + 1, h => by
    cases h with
    | cons h1 h2 => exact .cons h1 (dpa_take n h2)
theorem dpa_app : ∀ {vs ws : List V} {ds es : List PyData}, DpAll K H vs ds → DpAll K H ws es → DpAll K H (vs ++ ws) (ds ++ es)
  | _, _, [], _, h, h' => by
    cases h
    exact h'
  | _, _, d :: ds, _, h, h' => by
    cases h with
    | cons h1 h2 => exact .cons h1 (dpa_app h2 h')
end

/-! ## what an argument stands for -/
inductive Dx where
  | d (x : PyData)
  | scr (xs : List PyData)
def Vx (K : PySem.W.Frag) (H : Hp) (v : V) : Dx → Prop
  | .d x => Dp K H v x
  | .scr xs => ∃ (p dx : Addr) (tv : V), v = .ref p ∧ H p = some (.ins (He.ga K "Script") dx [("steps", tv)]) ∧ Dp K H tv (.tuple xs)
theorem vx_up {K : PySem.W.Frag} {H H' : Hp} {v : V} {x : Dx} (e : Up H H') (h : Vx K H v x) : Vx K H' v x := by
  cases x with
  | d x => exact dp_up e x v h
  | scr xs =>
    obtain ⟨p, dx, tv, h1, h2, h3⟩ := h
    exact ⟨p, dx, tv, h1, e _ _ h2 (fun _ z => by cases z), dp_up e _ _ h3⟩
abbrev Vxs (K : PySem.W.Frag) (H : Hp) : List V → List Dx → Prop := Paired (Vx K H)
theorem vxs_up {K : PySem.W.Frag} {H H' : Hp} (e : Up H H') : ∀ {vs : List V} {xs : List Dx}, Vxs K H vs xs → Vxs K H' vs xs
  | _, _, .nil => .nil
  | _, _, .cons h t => .cons (vx_up e h) (vxs_up e t)

/-! ## the families of contexts -/
structure Fm (P : Program) (w : World) (K : PySem.W.Frag) (mg : Str → Option Value) (base : Heap) (k : Nat) {ι : Type} (Y : ι → Cx) : Prop where
  hP : ∀ i, (Y i).prog = P
  hw : ∀ i, (Y i).w = w
  hK : ∀ i, (Y i).K = K
  hmg : ∀ i, (Y i).mg = mg
  hb : ∀ i, (Y i).base = base
  calm : ∀ i, (Y i).calm = true
  rm : ∀ i, Room k (Y i).A
  nd : ∀ i, (Y i).N.Nodup

/-! ## judgements: what an expression, a test, an argument list comes to -/
section
variable {ι : Type} (Y : ι → Cx)
/-- e comes to a value of which R holds; nothing that stands changes -/
def ER (σ : L2.St) (H : Hp) (e : Expr) (R : V → Hp → Prop) : Prop :=
  ∃ t : TE, (∀ i, PE (Y i) e t) ∧ ∀ H1, Up H H1 → ∀ Q : VK, (∀ v H2, Same H1 H2 → R v H2 → Q v H2) → t σ H1 Q
def DE (K : PySem.W.Frag) (σ : L2.St) (H : Hp) (e : Expr) (d : PyData) : Prop := ER Y σ H e fun v H' => Dp K H' v d
def XE (K : PySem.W.Frag) (σ : L2.St) (H : Hp) (e : Expr) (x : Dx) : Prop := ER Y σ H e fun v H' => Vx K H' v x
def DT (σ : L2.St) (H : Hp) (e : Expr) (b : Bool) : Prop :=
  ∃ t : TT, (∀ i, PT (Y i) e t) ∧ ∀ H1, Up H H1 → ∀ Q : Bool → Hp → Prop, (∀ H2, Same H1 H2 → Q b H2) → t σ H1 Q
def DW (σ : L2.St) (H : Hp) (e : Expr) (b : Bool) : Prop :=
  ∃ t : TT, (∀ i, PW (Y i) e t) ∧ ∀ H1, Up H H1 → ∀ Q : Bool → Hp → Prop, (∀ H2, Same H1 H2 → Q b H2) → t σ H1 Q
def XA (K : PySem.W.Frag) (σ : L2.St) (H : Hp) (es : List Expr) (xs : List Dx) : Prop :=
  ∃ t : TA, (∀ i, PA (Y i) es t) ∧ ∀ H1, Up H H1 → ∀ Q : List V → Hp → Prop, (∀ vs H2, Same H1 H2 → Vxs K H2 vs xs → Q vs H2) → t σ H1 Q
/-- a block of statements leads to what is wanted -/
def DSs (D : Ends) (σ : L2.St) (H : Hp) (st : List Stmt) : Prop := ∃ t : TS, (∀ i, PSs (Y i) st t) ∧ t D σ H
def DS (D : Ends) (σ : L2.St) (H : Hp) (st : Stmt) : Prop := ∃ t : TS, (∀ i, PS (Y i) st t) ∧ t D σ H
end
def Ret (K : PySem.W.Frag) (r : PyData) (H : Hp) (Q : VK) : Prop := ∀ v H', Same H H' → Dp K H' v r → Q v H'
theorem Ret.up {K : PySem.W.Frag} {r : PyData} {H H1 : Hp} {Q : VK} (h : Ret K r H Q) (e : Same H H1) : Ret K r H1 Q := fun v H' e' d => h v H' (e.trans e') d

section
variable {ι : Type} {Y : ι → Cx} {P : Program} {w : World} {K : PySem.W.Frag} {mg : Str → Option Value} {base : Heap} {k : Nat} {σ : L2.St} {H H' : Hp} {a b c e : Expr} {es : List Expr} {pos p : Pos} {d d1 d2 : PyData} {ds ds1 ds2 : List PyData} {x : Str} {b1 b2 : Bool} {D : Ends} {R : V → Hp → Prop} {y : Dx} {ys : List Dx} {rest : List Stmt}

theorem ER.up (h : ER Y σ H e R) (u : Up H H') : ER Y σ H' e R := by
  obtain ⟨t, ht, h⟩ := h
  exact ⟨t, ht, fun H1 e1 Q q => h H1 (u.trans e1) Q q⟩
theorem DE.up (h : DE Y K σ H e d) (u : Up H H') : DE Y K σ H' e d := ER.up h u
theorem DT.up (h : DT Y σ H e b1) (u : Up H H') : DT Y σ H' e b1 := by
  obtain ⟨t, ht, h⟩ := h
  exact ⟨t, ht, fun H1 e1 Q q => h H1 (u.trans e1) Q q⟩
theorem DE.is (h : DE Y K σ H e d) (q : d = d1) : DE Y K σ H e d1 := q ▸ h
theorem DT.is (h : DT Y σ H e b1) (q : b1 = b2) : DT Y σ H e b2 := q ▸ h
theorem DE.toX (h : DE Y K σ H e d) : XE Y K σ H e (.d d) := h

/-! ### constants and names -/
theorem de_int {i j} : DE Y K σ H (.Constant (.int i) j pos) (.int i) := ⟨_, fun _ => pe_int, fun H1 _ Q q => q _ H1 (Same.refl _) (.int i)⟩
theorem de_str {x j} : DE Y K σ H (.Constant (.str x) j pos) (.str x) := ⟨_, fun _ => pe_str, fun H1 _ Q q => q _ H1 (Same.refl _) (.str x)⟩
theorem de_bl {x j} : DE Y K σ H (.Constant (.bool x) j pos) (.bool x) := ⟨_, fun _ => pe_bl, fun H1 _ Q q => q _ H1 (Same.refl _) (.bl x)⟩
theorem de_non {j} : DE Y K σ H (.Constant .none j pos) .none := ⟨_, fun _ => pe_non, fun H1 _ Q q => q _ H1 (Same.refl _) .non⟩
theorem er_v (j : Nat) {v : V} (hR : ∀ H1, Up H H1 → R v H1) (hs : σ[j]? = some (some v) := by rfl) (hN : ∀ i, (Y i).N[j]? = some x := by intro _; rfl)
    (hv : ∀ i, Vis (Y i).env.scope x := by intro _; first | exact Or.inl rfl | exact Or.inr (Or.inl rfl) | exact Or.inr (Or.inr rfl)) (hd : (x == ("__debug__" : Str)) = false := by decide) (hcd : (x == ("__classdict__" : Str)) = false := by decide) :
    ER Y σ H (.Name x pos) R := ⟨tVar j, fun i => pe_var (hN i) (hv i) hd hcd, fun H1 e1 Q q => ⟨v, hs, q v H1 (Same.refl _) (hR H1 e1)⟩⟩
theorem de_v (j : Nat) {v : V} (h : Dp K H v d) (hs : σ[j]? = some (some v) := by rfl) (hN : ∀ i, (Y i).N[j]? = some x := by intro _; rfl)
    (hv : ∀ i, Vis (Y i).env.scope x := by intro _; first | exact Or.inl rfl | exact Or.inr (Or.inl rfl) | exact Or.inr (Or.inr rfl)) (hd : (x == ("__debug__" : Str)) = false := by decide) (hcd : (x == ("__classdict__" : Str)) = false := by decide) :
    DE Y K σ H (.Name x pos) d := er_v j (fun H1 e1 => dp_up e1 d v h) hs hN hv hd hcd
theorem xe_v (j : Nat) {v : V} (h : Vx K H v y) (hs : σ[j]? = some (some v) := by rfl) (hN : ∀ i, (Y i).N[j]? = some x := by intro _; rfl)
    (hv : ∀ i, Vis (Y i).env.scope x := by intro _; first | exact Or.inl rfl | exact Or.inr (Or.inl rfl) | exact Or.inr (Or.inr rfl)) (hd : (x == ("__debug__" : Str)) = false := by decide) (hcd : (x == ("__classdict__" : Str)) = false := by decide) :
    XE Y K σ H (.Name x pos) y := er_v j (fun H1 e1 => vx_up e1 h) hs hN hv hd hcd
/-- the module's name x holds data, wherever one stands -/
def GV (K : PySem.W.Frag) (mg : Str → Option Value) (x : Str) (d : PyData) : Prop := ∃ u v, mg x = some u ∧ RelV v u ∧ ∀ H : Hp, Dp K H v d
theorem de_g (F : Fm P w K mg base k Y) (g : GV K mg x d) (hg : ∀ i, Gl (Y i) x := by intro _; rfl) (hd : (x == ("__debug__" : Str)) = false := by decide) : DE Y K σ H (.Name x pos) d := by
  obtain ⟨u, v, h1, h2, h3⟩ := g
  exact ⟨tC v, fun i => pe_glob (hg i) (by rw [F.hmg i]; exact h1) h2 hd, fun H1 _ Q q => q v H1 (Same.refl _) (h3 H1)⟩

/-! ### arguments, displays -/
theorem xa_nil : XA Y K σ H [] [] := ⟨_, fun _ => pa_nil, fun H1 _ Q q => q [] H1 (Same.refl _) .nil⟩
theorem xa_x (h : XE Y K σ H e y) (r : XA Y K σ H es ys) (hs : ∀ i, starEach (e :: es) (Y i).env = (false, eval e (Y i).env) :: starEach es (Y i).env := by intro _; rfl) : XA Y K σ H (e :: es) (y :: ys) := by
  obtain ⟨t, ht, h⟩ := h
  obtain ⟨u, hu, r⟩ := r
  refine ⟨tCons t u, fun i => pa_cons (ht i) (hu i) (hs i), fun H1 e1 Q q => h H1 e1 _ fun v H2 e2 h2 => r H2 (e1.trans (up_of e2)) _ fun vs H3 e3 h3 => ?_⟩
  exact q (v :: vs) H3 (e2.trans e3) (.cons (vx_up (up_of e3) h2) h3)
theorem xa_d (h : DE Y K σ H e d) (r : XA Y K σ H es ys) (hs : ∀ i, starEach (e :: es) (Y i).env = (false, eval e (Y i).env) :: starEach es (Y i).env := by intro _; rfl) : XA Y K σ H (e :: es) (.d d :: ys) := xa_x h r hs
theorem dpa_of : ∀ {vs : List V} {ds : List PyData}, Vxs K H vs (ds.map .d) → DpAll K H vs ds
  | _, [], h => by
    cases h
    exact .nil
  | _, d :: ds, h => by
    cases h with
    | cons h1 h2 => exact .cons h1 (dpa_of h2)
def isD : List Dx → Bool
  | [] => true
  | .d _ :: r => isD r
  | .scr _ :: _ => false
def unD : List Dx → List PyData
  | [] => []
  | .d x :: r => x :: unD r
  | .scr _ :: r => unD r
theorem unD_eq : ∀ {ys : List Dx}, isD ys = true → ys = (unD ys).map .d
  | [], _ => rfl
  | .d x :: r, h => congrArg (Dx.d x :: ·) (unD_eq (ys := r) h)
  | .scr _ :: _, h => by cases h
theorem de_tup {n : Nat} (h : XA Y K σ H es ys) (hy : isD ys = true := by rfl) (hl : Nat.ble (unD ys).length 16777216 = true := by rfl) : DE Y K σ H (.Tuple es n pos) (.tuple (unD ys)) := by
  obtain ⟨t, ht, h⟩ := h
  refine ⟨tTup t, fun i => pe_tup (ht i), fun H1 e1 Q q => h H1 e1 _ fun vs H2 e2 h2 => ?_⟩
  rw [unD_eq hy] at h2
  have h3 := dpa_of h2
  refine ⟨by rw [dpa_len (vs := vs) (ds := []) _ _ h3, sizeLine_eq]; exact Nat.le_of_ble_eq_true hl, fun p hp => q _ _ (e2.trans (same_new hp)) (.tup (SqT.of upd_same) (dpa_up (up_of (same_new hp)) _ _ h3))⟩
theorem de_lst (h : XA Y K σ H es ys) (hy : isD ys = true := by rfl) (hl : Nat.ble (unD ys).length 16777216 = true := by rfl) : DE Y K σ H (.List es pos) (.list (unD ys)) := by
  obtain ⟨t, ht, h⟩ := h
  refine ⟨tLst t, fun i => pe_lst (ht i), fun H1 e1 Q q => h H1 e1 _ fun vs H2 e2 h2 => ?_⟩
  rw [unD_eq hy] at h2
  have h3 := dpa_of h2
  refine ⟨by rw [dpa_len (vs := vs) (ds := []) _ _ h3, sizeLine_eq]; exact Nat.le_of_ble_eq_true hl, fun p hp => q _ _ (e2.trans (same_new hp)) (.lst (SqL.of upd_same) (dpa_up (up_of (same_new hp)) _ _ h3))⟩
end
end PK
namespace PK
open L2 PySem PySem.Spec PyProof.Rows
/-! ## comparisons of data -/
def strD : PyData → Option Str
  | .str x => some x
  | _ => none
def memS (s : Str) : List PyData → Bool
  | [] => false
  | .str z :: r => decide (z = s) || memS s r
  | _ :: r => memS s r
theorem rel_in {K : PySem.W.Frag} {H : Hp} {s : Str} : ∀ (ds : List PyData) (vs : List V), DpAll K H vs ds → ds.all (fun d => (strD d).isSome) = true → vs.all flatV = true ∧ inV (.str s) vs = memS s ds
  | [], _, h, _ => by
    cases h
    exact ⟨rfl, rfl⟩
  | d :: ds, _, h, hs => by
    cases h with
    | cons h1 h2 =>
      rw [List.all_cons, Bool.and_eq_true] at hs
      obtain ⟨i1, i2⟩ := rel_in ds _ h2 hs.2
      cases h1 with
      | str z =>
        refine ⟨by rw [List.all_cons, i1] <;> rfl, ?_⟩
        show (eqV (.str z) (.str s) || inV (.str s) _) = (decide (z = s) || memS s ds)
        rw [i2]
        have e0 : eqV (.str z) (.str s) = decide (z = s) := by
          show (z == s) = decide (z = s)
          by_cases e : z = s
          · subst e
            simp
          · rw [decide_eq_false e]
            exact beq_eq_false_iff_ne.mpr e
        rw [e0]
      | _ => cases hs.1
def tyD : PyData → String
  | .none => "NoneType"
  | .bool _ => "bool"
  | .int _ => "int"
  | .str _ => "str"
  | .list _ => "list"
  | .tuple _ => "tuple"
  | .dict _ => "dict"
/-- the built-in classes that are asked for -/
inductive Bt where
  | str | int | bool | tuple | list
def Bt.n : Bt → String
  | .str => "str"
  | .int => "int"
  | .bool => "bool"
  | .tuple => "tuple"
  | .list => "list"
def isiD : PyData → Bt → Bool
  | .str _, .str => true
  | .int _, .int => true
  | .bool _, .bool => true
  | .bool _, .int => true
  | .tuple _, .tuple => true
  | .list _, .list => true
  | _, _ => false
theorem kit_tab (d : PyData) (t : Bt) : kitB (tyD d) t.n = some (isiD d t) := by
  cases d <;> cases t <;> kernel_rfl
theorem boot_bt (t : Bt) {n : Str} (h : n = Str.ofString t.n) : bootBuiltins n = some (.type t.n) := by
  subst h
  cases t <;> decide +kernel
theorem ty_of {K : PySem.W.Frag} {H : Hp} {d : PyData} {v : V} (h : Dp K H v d) : TyX K H v (.type (tyD d)) := by
  cases h with
  | non => exact .base .non
  | bl b => exact .base (.bl b)
  | int i => exact .base (.int i)
  | str x => exact .base (.str x)
  | lst hs _ =>
    rcases hs with (hs | ⟨o, hs⟩) | ⟨o, its, n, h1, h2, _⟩
    · exact .base (.lst hs)
    · exact .base (.frz hs)
    · exact .kList h1 h2
  | tup hs _ =>
    rcases hs with (hs | ⟨o, hs⟩) | ⟨o, its, n, h1, h2, _⟩
    · exact .base (.tup hs)
    · exact .fTuple hs
    · exact .kTuple h1 h2
section
variable {P : Program} {w : World} {K : PySem.W.Frag} {mg : Str → Option Value} {base : Heap}
/-- the module's table x holds data at the key s -/
def TV (K : PySem.W.Frag) (w : World) (x s : Str) (d : PyData) : Prop := (∃ es n, KDict K w (He.ga K x) es n) ∧ ∃ u v, PySem.W.nsIn K (He.ga K x) s = some (some u) ∧ RelV v u ∧ ∀ H : Hp, Dp K H v d
def TN (K : PySem.W.Frag) (w : World) (x s : Str) : Prop := (∃ es n, KDict K w (He.ga K x) es n) ∧ PySem.W.nsIn K (He.ga K x) s = some none
/-- whether the module's table x has the key s -/
def TKey (K : PySem.W.Frag) (w : World) (x s : Str) (b : Bool) : Prop := (∃ es n, KDict K w (He.ga K x) es n) ∧ ∃ r, PySem.W.nsIn K (He.ga K x) s = some r ∧ r.isSome = b
theorem TV.i {x s : Str} {d : PyData} (h : TV K w x s d) : TKey K w x s true := by
  obtain ⟨h1, u, v, h2, _⟩ := h
  exact ⟨h1, _, h2, rfl⟩
theorem TN.i {x s : Str} (h : TN K w x s) : TKey K w x s false := ⟨h.1, _, h.2, rfl⟩
/-- a def of the text, its promise -/
def FnC (P : Program) (w : World) (K : PySem.W.Frag) (mg : Str → Option Value) (base : Heap) (k : Nat) (x : Str) (sp : Sp) : Prop :=
  ∃ (f : Addr) (fd : FuncData) (ps : List Str), FnOk P w K mg base CX0 k f fd ps sp ∧ PySem.W.keepIn K (.ref f) = true ∧ mg x = some (.ref f) ∧ Binds K fd ps []
/-- pure promise: from these data that datum, what stands stays -/
def Spf (K : PySem.W.Frag) (pre : List Dx → PyData → Prop) : Sp := fun vs H Q _ => ∃ xs r, Vxs K H vs xs ∧ pre xs r ∧ Ret K r H Q
end
section
variable {ι : Type} {Y : ι → Cx} {P : Program} {w : World} {K : PySem.W.Frag} {mg : Str → Option Value} {base : Heap} {k k' : Nat} {σ : L2.St} {H H' : Hp} {a b c e : Expr} {es : List Expr} {pos p : Pos} {d d1 d2 : PyData} {ds ds1 ds2 : List PyData} {x : Str} {b1 b2 : Bool} {D : Ends} {R : V → Hp → Prop} {y : Dx} {ys : List Dx} {rest : List Stmt} {s s2 : Str} {i j : Int}
/-- an operation upon two data, by its rule -/
theorem er_op2 {r : R2} {t1 t2 : TE} (q1 : ∀ H1, Up H H1 → ∀ Q : VK, (∀ v H2, Same H1 H2 → Dp K H2 v d1 → Q v H2) → t1 σ H1 Q) (q2 : ∀ H1, Up H H1 → ∀ Q : VK, (∀ v H2, Same H1 H2 → Dp K H2 v d2 → Q v H2) → t2 σ H1 Q)
    (hr : ∀ v u H1, Dp K H1 v d1 → Dp K H1 u d2 → ∀ Q : VK, (∀ z H2, Same H1 H2 → R z H2 → Q z H2) → r v u H1 Q) : ∀ H1, Up H H1 → ∀ Q : VK, (∀ v H2, Same H1 H2 → R v H2 → Q v H2) → tOp r t1 t2 σ H1 Q :=
  fun H1 e1 Q q => q1 H1 e1 _ fun v H2 e2 h2 => q2 H2 (e1.trans (up_of e2)) _ fun u H3 e3 h3 => hr v u H3 (dp_up (up_of e3) _ _ h2) h3 Q fun z H4 e4 h4 => q z H4 ((e2.trans e3).trans e4) h4
/-- a rule of a comparison: for every member of the family -/
def CmpR {ι : Type} (Y : ι → Cx) (K : PySem.W.Frag) (op : CmpOp) (b : Expr) (d1 d2 : PyData) (z : Bool) : Prop :=
  (∀ _ : ι, behindInMarks op b = false) ∧ ∃ r : R2, (∀ i, OpR (Y i) (compareOp op) r) ∧ ∀ v u H1, Dp K H1 v d1 → Dp K H1 u d2 → ∀ Q : VK, Q (.bl z) H1 → r v u H1 Q
theorem de_cmp {op : CmpOp} {z : Bool} (ha : DE Y K σ H a d1) (hb : DE Y K σ H b d2) (hr : CmpR Y K op b d1 d2 z) : DE Y K σ H (.Compare a [op] [b] pos) (.bool z) := by
  obtain ⟨t1, h1, q1⟩ := ha
  obtain ⟨t2, h2, q2⟩ := hb
  obtain ⟨hm, r, hr, q⟩ := hr
  exact ⟨tOp r t1 t2, fun i => pe_cmpR (hr i) (h1 i) (h2 i) (hm i), er_op2 q1 q2 fun v u H1 x1 x2 Q qq => q v u H1 x1 x2 Q (qq _ H1 (Same.refl _) (.bl z))⟩
theorem dt_cmp {op : CmpOp} {z : Bool} (ha : DE Y K σ H a d1) (hb : DE Y K σ H b d2) (hr : CmpR Y K op b d1 d2 z) : DT Y σ H (.Compare a [op] [b] pos) z := by
  obtain ⟨t1, h1, q1⟩ := ha
  obtain ⟨t2, h2, q2⟩ := hb
  obtain ⟨hm, r, hr, q⟩ := hr
  refine ⟨tTest (tOp r t1 t2), fun i => pt_cmpR (hr i) (h1 i) (h2 i) (hm i), fun H1 e1 Q qq => ?_⟩
  exact er_op2 (R := fun v _ => v = .bl z) q1 q2 (fun v u H1 x1 x2 Q qq => q v u H1 x1 x2 Q (qq _ H1 (Same.refl _) rfl)) H1 e1 _ fun v H2 e2 ev => ⟨z, ev, qq H2 e2⟩
theorem nm_eq : ∀ _ : ι, behindInMarks .Eq b = false := fun _ => nomark b
theorem cm_eqs : CmpR Y K .Eq b (.str s) (.str s2) (decide (s = s2)) := ⟨fun _ => nomark b, rEq, fun _ => op_eq, fun v u H1 h1 h2 Q q => by
  cases h1
  cases h2
  refine ⟨rfl, ?_⟩
  have e : decide (V.str s = V.str s2) = decide (s = s2) := by
    by_cases z : s = s2
    · subst z
      simp
    · rw [decide_eq_false z, decide_eq_false (fun q => z (V.str.inj q))]
  rw [e]
  exact q⟩
theorem cm_nes : CmpR Y K .NotEq b (.str s) (.str s2) (!decide (s = s2)) := ⟨fun _ => nomark b, rNe, fun _ => op_ne, fun v u H1 h1 h2 Q q => by
  cases h1
  cases h2
  refine ⟨rfl, ?_⟩
  have e : decide (V.str s = V.str s2) = decide (s = s2) := by
    by_cases z : s = s2
    · subst z
      simp
    · rw [decide_eq_false z, decide_eq_false (fun q => z (V.str.inj q))]
  rw [e]
  exact q⟩
theorem cm_eqi : CmpR Y K .Eq b (.int i) (.int j) (decide (i = j)) := ⟨fun _ => nomark b, rEq, fun _ => op_eq, fun v u H1 h1 h2 Q q => by
  cases h1
  cases h2
  refine ⟨rfl, ?_⟩
  have e : decide (V.int i = V.int j) = decide (i = j) := by
    by_cases z : i = j
    · subst z
      simp
    · rw [decide_eq_false z, decide_eq_false (fun q => z (V.int.inj q))]
  rw [e]
  exact q⟩
theorem cm_nei : CmpR Y K .NotEq b (.int i) (.int j) (!decide (i = j)) := ⟨fun _ => nomark b, rNe, fun _ => op_ne, fun v u H1 h1 h2 Q q => by
  cases h1
  cases h2
  refine ⟨rfl, ?_⟩
  have e : decide (V.int i = V.int j) = decide (i = j) := by
    by_cases z : i = j
    · subst z
      simp
    · rw [decide_eq_false z, decide_eq_false (fun q => z (V.int.inj q))]
  rw [e]
  exact q⟩
theorem cm_eqb : CmpR Y K .Eq b (.bool b1) (.bool b2) (b1 == b2) := ⟨fun _ => nomark b, rEq, fun _ => op_eq, fun v u H1 h1 h2 Q q => by
  cases h1
  cases h2
  refine ⟨rfl, ?_⟩
  have e : decide (V.bl b1 = V.bl b2) = (b1 == b2) := by cases b1 <;> cases b2 <;> rfl
  rw [e]
  exact q⟩
theorem cm_lt : CmpR Y K .Lt b (.int i) (.int j) (decide (i < j)) := ⟨fun _ => nomark b, _, fun _ => op_lt, fun v u H1 h1 h2 Q q => by
  cases h1
  cases h2
  exact ⟨_, _, rfl, rfl, q⟩⟩
theorem cm_le : CmpR Y K .LtE b (.int i) (.int j) (decide (i ≤ j)) := ⟨fun _ => nomark b, _, fun _ => op_le, fun v u H1 h1 h2 Q q => by
  cases h1
  cases h2
  exact ⟨_, _, rfl, rfl, q⟩⟩
theorem cm_gt : CmpR Y K .Gt b (.int i) (.int j) (decide (j < i)) := ⟨fun _ => nomark b, _, fun _ => op_gt, fun v u H1 h1 h2 Q q => by
  cases h1
  cases h2
  exact ⟨_, _, rfl, rfl, q⟩⟩
theorem cm_ge : CmpR Y K .GtE b (.int i) (.int j) (decide (j ≤ i)) := ⟨fun _ => nomark b, _, fun _ => op_ge, fun v u H1 h1 h2 Q q => by
  cases h1
  cases h2
  exact ⟨_, _, rfl, rfl, q⟩⟩
theorem cm_lts : CmpR Y K .Lt b (.str s) (.str s2) (decide (s.cps.toList < s2.cps.toList)) := ⟨fun _ => nomark b, _, fun _ => op_lt_str, fun v u H1 h1 h2 Q q => by
  cases h1
  cases h2
  exact ⟨_, _, rfl, rfl, q⟩⟩
theorem rm64 {A : Around} (h : Room k A) : A.units + 65 < cLine := by
  have := h.un
  omega
/-- == of data of any form -/
theorem cm_eqD (F : Fm P w K mg base k Y) (h1 : SeqAt.shaped d1 = true) (h2 : SeqAt.shaped d2 = true) : CmpR Y K .Eq b d1 d2 (PyData.eqv d1 d2) :=
  ⟨fun _ => nomark b, rEqD K, fun i => by
    have q := op_eqD (X := Y i) (by have := rm64 (F.rm i); omega)
    rw [F.hK i] at q
    exact q, fun v u H1 x1 x2 Q q => ⟨d1, d2, x1, x2, h1, h2, q⟩⟩
theorem cm_neD (F : Fm P w K mg base k Y) (h1 : SeqAt.shaped d1 = true) (h2 : SeqAt.shaped d2 = true) : CmpR Y K .NotEq b d1 d2 (!PyData.eqv d1 d2) :=
  ⟨fun _ => nomark b, rNeD K, fun i => by
    have q := op_neD (X := Y i) (by have := rm64 (F.rm i); omega)
    rw [F.hK i] at q
    exact q, fun v u H1 x1 x2 Q q => ⟨d1, d2, x1, x2, h1, h2, q⟩⟩
theorem cm_inS (F : Fm P w K mg base k Y) (hs : ds.all (fun d => (strD d).isSome) = true := by rfl) (hm : behindInMarks .In b = false := by rfl) : CmpR Y K .In b (.str s) (.tuple ds) (memS s ds) :=
  ⟨fun _ => hm, rIn K false, fun i => by
    have q := op_in_seq (X := Y i)
    rw [F.hK i] at q
    exact q, fun v u H1 x1 x2 Q q => by
    cases x1
    cases x2 with
    | tup ht ha =>
      obtain ⟨f1, f2⟩ := rel_in (s := s) ds _ ha hs
      refine ⟨_, _, rfl, .inr ht, rfl, f1, ?_⟩
      rw [f2]
      exact q⟩
theorem cm_niS (F : Fm P w K mg base k Y) (hs : ds.all (fun d => (strD d).isSome) = true := by rfl) (hm : behindInMarks .NotIn b = false := by rfl) : CmpR Y K .NotIn b (.str s) (.tuple ds) (!memS s ds) :=
  ⟨fun _ => hm, rIn K true, fun i => by
    have q := op_notIn_seq (X := Y i)
    rw [F.hK i] at q
    exact q, fun v u H1 x1 x2 Q q => by
    cases x1
    cases x2 with
    | tup ht ha =>
      obtain ⟨f1, f2⟩ := rel_in (s := s) ds _ ha hs
      refine ⟨_, _, rfl, .inr ht, rfl, f1, ?_⟩
      rw [f2]
      exact q⟩
/-- x in a tuple of data -/
def rInT (K : PySem.W.Frag) : R2 := fun x y H Q => ∃ d ds, Dp K H x d ∧ Dp K H y (.tuple ds) ∧ SeqAt.shaped d = true ∧ SeqAt.shaped (.tuple ds) = true ∧ Q (.bl (ds.any fun z => PyData.eqv z d)) H
theorem op_inT {X : Cx} (hu : X.A.units + 65 < cLine) : OpR X (compareOp .In) (rInT X.K) := by
  intro pins s σ H x y v u Q I rx ry h
  obtain ⟨d, ds, hd, he, sd, se, q⟩ := h
  obtain ⟨as, r1⟩ := Dp.reads I d x v hd rx
  obtain ⟨bs, r2⟩ := Dp.reads I (.tuple ds) y u he ry
  exact SeqAt.in_tuple_reads r2 r1 (SeqAt.canLay_of_shaped se) (SeqAt.canLay_of_shaped sd) (room_in_shaped sd hu) ⟨.bl _, H, I, rfl, q⟩
theorem cm_inD (F : Fm P w K mg base k Y) (h1 : SeqAt.shaped d = true) (h2 : SeqAt.shaped (.tuple ds) = true) (hm : behindInMarks .In b = false := by rfl) : CmpR Y K .In b d (.tuple ds) (ds.any fun z => PyData.eqv z d) :=
  ⟨fun _ => hm, rInT K, fun i => by
    have q := op_inT (X := Y i) (rm64 (F.rm i))
    rw [F.hK i] at q
    exact q, fun v u H1 x1 x2 Q q => ⟨d, ds, x1, x2, h1, h2, q⟩⟩
/-- x in a table of the module: the operand is the table's name -/
theorem er_tab (F : Fm P w K mg base k Y) (g : mg x = some (.ref (He.ga K x))) (hg : ∀ i, Gl (Y i) x := by intro _; rfl) (hd : (x == ("__debug__" : Str)) = false := by decide) : ER Y σ H (.Name x pos) fun v _ => v = .ref (He.ga K x) :=
  ⟨tC (.ref (He.ga K x)), fun i => pe_glob (hg i) (by rw [F.hmg i]; exact g) rfl hd, fun H1 _ Q q => q _ H1 (Same.refl _) rfl⟩
theorem de_inK {p2 : Pos} (F : Fm P w K mg base k Y) (ha : DE Y K σ H a (.str s)) (g : mg x = some (.ref (He.ga K x))) (T : TKey K w x s b1) (hg : ∀ i, Gl (Y i) x := by intro _; rfl) (hd : (x == ("__debug__" : Str)) = false := by decide)
    (hm : behindInMarks .In (.Name x p2) = false := by rfl) : DE Y K σ H (.Compare a [.In] [.Name x p2] pos) (.bool b1) := by
  obtain ⟨⟨es, n, D⟩, r, h1, h2⟩ := T
  obtain ⟨t1, ht, q1⟩ := ha
  obtain ⟨t2, ht2, q2⟩ := er_tab (pos := p2) (σ := σ) (H := H) F g hg hd
  refine ⟨tOp (fun x' y H Q => ∃ (z : Str) (r : Option Value), x' = .str z ∧ y = .ref (He.ga K x) ∧ PySem.W.nsIn K (He.ga K x) z = some r ∧ Q (.bl r.isSome) H) t1 t2, fun i => pe_cmpR (by
    have D' : KDict (Y i).K (Y i).w (He.ga K x) es n := by
      rw [F.hK i, F.hw i]
      exact D
    have q := op_in_kd D'
    rw [F.hK i] at q
    exact q) (ht i) (ht2 i) hm, fun H1 e1 Q q => q1 H1 e1 _ fun v H2 e2 h3 => q2 H2 (e1.trans (up_of e2)) _ fun u H3 e3 eu => ?_⟩
  cases h3
  rw [← h2] at q
  exact ⟨s, r, rfl, eu, h1, q _ H3 (e2.trans e3) (.bl _)⟩
theorem de_atK {p2 : Pos} (F : Fm P w K mg base k Y) (ha : DE Y K σ H a (.str s)) (g : mg x = some (.ref (He.ga K x))) (T : TV K w x s d) (hg : ∀ i, Gl (Y i) x := by intro _; rfl) (hd : (x == ("__debug__" : Str)) = false := by decide)
    (hs : PlainIx a := by exact fun _ _ => rfl) : DE Y K σ H (.Subscript (.Name x p2) a pos) d := by
  obtain ⟨⟨es, n, D⟩, u0, v0, h1, h2, h3⟩ := T
  obtain ⟨t1, ht, q1⟩ := ha
  obtain ⟨t2, ht2, q2⟩ := er_tab (pos := p2) (σ := σ) (H := H) F g hg hd
  refine ⟨tOp (rIxD K w) t2 t1, fun i => pe_ix (by
    have q := ix_kdict (X := Y i)
    rw [F.hK i, F.hw i] at q
    exact q) (ht2 i) (ht i) hs, fun H1 e1 Q q => q2 H1 e1 _ fun u H2 e2 eu => q1 H2 (e1.trans (up_of e2)) _ fun v H3 e3 h4 => ?_⟩
  cases h4
  exact ⟨_, s, v0, eu, rfl, ⟨es, n, u0, D.at_, D.lit, h1, h2⟩, q _ H3 (e2.trans e3) (h3 H3)⟩

/-! ### truth -/
theorem pe_no {X : Cx} : PE X e fun _ _ _ => False := ⟨fun _ _ _ _ _ _ h => h.elim⟩
theorem pt_no {X : Cx} : PT X e fun _ _ _ => False := ⟨fun _ _ _ _ _ _ h => h.elim⟩
theorem pw_no {X : Cx} : PW X e fun _ _ _ => False := ⟨fun _ _ _ _ _ _ _ h => h.elim⟩
theorem de_and {r : Expr} {rs : List Expr} (ha : DE Y K σ H a (.bool b1)) (hb : b1 = true → DE Y K σ H (.BoolOp .And (r :: rs) pos) (.bool b2)) : DE Y K σ H (.BoolOp .And (a :: r :: rs) pos) (.bool (b1 && b2)) := by
  obtain ⟨t1, h1, q1⟩ := ha
  cases b1 with
  | true =>
    obtain ⟨t2, h2, q2⟩ := hb rfl
    refine ⟨tAndV t1 t2, fun i => pe_and (h1 i) (h2 i), fun H1 e1 Q q => q1 H1 e1 _ fun v H2 e2 hv => ?_⟩
    cases hv
    exact ⟨true, rfl, q2 H2 (e1.trans (up_of e2)) Q fun v H3 e3 h3 => q v H3 (e2.trans e3) h3⟩
  | false =>
    refine ⟨tAndV t1 fun _ _ _ => False, fun i => pe_and (h1 i) pe_no, fun H1 e1 Q q => q1 H1 e1 _ fun v H2 e2 hv => ?_⟩
    cases hv
    exact ⟨false, rfl, q _ H2 e2 (.bl false)⟩
theorem de_or {r : Expr} {rs : List Expr} (ha : DE Y K σ H a (.bool b1)) (hb : b1 = false → DE Y K σ H (.BoolOp .Or (r :: rs) pos) (.bool b2)) : DE Y K σ H (.BoolOp .Or (a :: r :: rs) pos) (.bool (b1 || b2)) := by
  obtain ⟨t1, h1, q1⟩ := ha
  cases b1 with
  | false =>
    obtain ⟨t2, h2, q2⟩ := hb rfl
    refine ⟨tOrV t1 t2, fun i => pe_or (h1 i) (h2 i), fun H1 e1 Q q => q1 H1 e1 _ fun v H2 e2 hv => ?_⟩
    cases hv
    exact ⟨false, rfl, q2 H2 (e1.trans (up_of e2)) Q fun v H3 e3 h3 => q v H3 (e2.trans e3) h3⟩
  | true =>
    refine ⟨tOrV t1 fun _ _ _ => False, fun i => pe_or (h1 i) pe_no, fun H1 e1 Q q => q1 H1 e1 _ fun v H2 e2 hv => ?_⟩
    cases hv
    exact ⟨true, rfl, q _ H2 e2 (.bl true)⟩
theorem de_one {op : BoolOp} (ha : DE Y K σ H a d) : DE Y K σ H (.BoolOp op [a] pos) d := by
  obtain ⟨t1, h1, q1⟩ := ha
  exact ⟨t1, fun i => pe_one (h1 i), q1⟩
theorem de_not (ha : DE Y K σ H a (.bool b1)) : DE Y K σ H (.UnaryOp .Not a pos) (.bool (!b1)) := by
  obtain ⟨t1, h1, q1⟩ := ha
  refine ⟨tNotV t1, fun i => pe_not (h1 i), fun H1 e1 Q q => q1 H1 e1 _ fun v H2 e2 hv => ?_⟩
  cases hv
  exact ⟨b1, rfl, q _ H2 e2 (.bl _)⟩
theorem dw_one_and (ha : DT Y σ H a b1) : DW Y σ H (.BoolOp .And [a] pos) b1 := by
  obtain ⟨t1, h1, q1⟩ := ha
  exact ⟨t1, fun i => pw_and1 (h1 i), q1⟩
theorem dw_one_or (ha : DT Y σ H a b1) : DW Y σ H (.BoolOp .Or [a] pos) b1 := by
  obtain ⟨t1, h1, q1⟩ := ha
  exact ⟨t1, fun i => pw_or1 (h1 i), q1⟩
theorem dw_and {r : Expr} {rs : List Expr} (ha : DT Y σ H a b1) (hb : b1 = true → DW Y σ H (.BoolOp .And (r :: rs) pos) b2) : DW Y σ H (.BoolOp .And (a :: r :: rs) pos) (b1 && b2) := by
  obtain ⟨t1, h1, q1⟩ := ha
  cases b1 with
  | true =>
    obtain ⟨t2, h2, q2⟩ := hb rfl
    exact ⟨tAnd t1 t2, fun i => pw_and (h1 i) (h2 i), fun H1 e1 Q q => q1 H1 e1 _ fun H2 e2 => iteT (q2 H2 (e1.trans (up_of e2)) Q fun H3 e3 => q H3 (e2.trans e3))⟩
  | false => exact ⟨tAnd t1 fun _ _ _ => False, fun i => pw_and (h1 i) pw_no, fun H1 e1 Q q => q1 H1 e1 _ fun H2 e2 => iteF (q H2 e2)⟩
theorem dw_or {r : Expr} {rs : List Expr} (ha : DT Y σ H a b1) (hb : b1 = false → DW Y σ H (.BoolOp .Or (r :: rs) pos) b2) : DW Y σ H (.BoolOp .Or (a :: r :: rs) pos) (b1 || b2) := by
  obtain ⟨t1, h1, q1⟩ := ha
  cases b1 with
  | false =>
    obtain ⟨t2, h2, q2⟩ := hb rfl
    exact ⟨tOr t1 t2, fun i => pw_or (h1 i) (h2 i), fun H1 e1 Q q => q1 H1 e1 _ fun H2 e2 => iteF (q2 H2 (e1.trans (up_of e2)) Q fun H3 e3 => q H3 (e2.trans e3))⟩
  | true => exact ⟨tOr t1 fun _ _ _ => False, fun i => pw_or (h1 i) pw_no, fun H1 e1 Q q => q1 H1 e1 _ fun H2 e2 => iteT (q H2 e2)⟩
theorem dt_w (h : DW Y σ H e b1) : DT Y σ H e b1 := by
  obtain ⟨t1, h1, q1⟩ := h
  exact ⟨t1, fun i => (h1 i).pt, q1⟩
theorem dt_not (ha : DT Y σ H a b1) : DT Y σ H (.UnaryOp .Not a pos) (!b1) := by
  obtain ⟨t1, h1, q1⟩ := ha
  exact ⟨tNot t1, fun i => pt_not (h1 i), fun H1 e1 Q q => q1 H1 e1 _ fun H2 e2 => q H2 e2⟩
/-- a test that is a call, a name, a subscript: of a truth value -/
theorem dt_e (ha : DE Y K σ H a (.bool b1)) (he : ∀ i, ∀ whole, isTrue a (Y i).env whole = (do let v ← whole; standAt a.pos; holding [v] (truthy v)) := by intro _ _; rfl) : DT Y σ H a b1 := by
  obtain ⟨t1, h1, q1⟩ := ha
  refine ⟨tB t1, fun i => pt_val (h1 i) (he i), fun H1 e1 Q q => q1 H1 e1 _ fun v H2 e2 hv => ?_⟩
  cases hv
  exact ⟨b1, rfl, q H2 e2⟩
theorem de_if (hc : DT Y σ H c b1) (ha : b1 = true → DE Y K σ H a d1) (hb : b1 = false → DE Y K σ H b d2) : DE Y K σ H (.IfExp c a b pos) (bif b1 then d1 else d2) := by
  obtain ⟨t1, h1, q1⟩ := hc
  cases b1 with
  | true =>
    obtain ⟨t2, h2, q2⟩ := ha rfl
    exact ⟨tIf t1 t2 fun _ _ _ => False, fun i => pe_ifExp (h1 i) (h2 i) pe_no, fun H1 e1 Q q => q1 H1 e1 _ fun H2 e2 => iteT (q2 H2 (e1.trans (up_of e2)) Q fun v H3 e3 h3 => q v H3 (e2.trans e3) h3)⟩
  | false =>
    obtain ⟨t2, h2, q2⟩ := hb rfl
    exact ⟨tIf t1 (fun _ _ _ => False) t2, fun i => pe_ifExp (h1 i) pe_no (h2 i), fun H1 e1 Q q => q1 H1 e1 _ fun H2 e2 => iteF (q2 H2 (e1.trans (up_of e2)) Q fun v H3 e3 h3 => q v H3 (e2.trans e3) h3)⟩
/-- 0 <= x < n -/
theorem de_chain {op1 op2 : CmpOp} {z1 z2 : Bool} {d3 : PyData} (ha : DE Y K σ H a d1) (hb : DE Y K σ H b d2) (hc : DE Y K σ H c d3) (hr : CmpR Y K op1 b d1 d2 z1) (hr2 : CmpR Y K op2 c d2 d3 z2)
    (hm : lastMarks [op1, op2] [b, c] = false := by with_unfolding_all rfl) : DE Y K σ H (.Compare a [op1, op2] [b, c] pos) (.bool (z1 && z2)) := by
  obtain ⟨t1, h1, q1⟩ := ha
  obtain ⟨t2, h2, q2⟩ := hb
  obtain ⟨t3, h3, q3⟩ := hc
  obtain ⟨_, r, hr, q⟩ := hr
  obtain ⟨_, r', hr', q'⟩ := hr2
  refine ⟨tChain r r' t1 t2 t3, fun i => pe_chain (hr i) (hr' i) (h1 i) (h2 i) (h3 i) hm, fun H1 e1 Q qq => q1 H1 e1 _ fun v H2 e2 hv => q2 H2 (e1.trans (up_of e2)) _ fun u H3 e3 hu => ?_⟩
  refine q v u H3 (dp_up (up_of e3) _ _ hv) hu _ ⟨z1, rfl, ?_⟩
  cases z1 with
  | true => exact iteT (q3 H3 ((e1.trans (up_of e2)).trans (up_of e3)) _ fun x H4 e4 hx => q' u x H4 (dp_up (up_of e4) _ _ hu) hx _ (qq _ H4 ((e2.trans e3).trans e4) (.bl z2)))
  | false => exact iteF (qq _ H3 (e2.trans e3) (.bl false))

/-! ### subscripts, slices, sums -/
theorem atD {K : PySem.W.Frag} {H : Hp} {vs : List V} {ds : List PyData} {i : Int} {d : PyData} (h : DpAll K H vs ds) (e : atI ds i = some d) : ∃ v, atI vs i = some v ∧ Dp K H v d := by
  unfold atI at e ⊢
  rw [dpa_len (vs := vs) (ds := ds) _ _ h]
  cases q : ixN ds.length i with
  | none =>
    rw [q] at e
    cases e
  | some j =>
    rw [q] at e
    exact dpa_get _ _ _ _ h e
theorem de_ixT (F : Fm P w K mg base k Y) (ha : DE Y K σ H a (.tuple ds)) (hb : DE Y K σ H b (.int i)) (hd : atI ds i = some d := by rfl) (hs : PlainIx b := by exact fun _ _ => rfl) : DE Y K σ H (.Subscript a b pos) d := by
  obtain ⟨t1, h1, q1⟩ := ha
  obtain ⟨t2, h2, q2⟩ := hb
  refine ⟨tOp (rIxT K) t1 t2, fun i => pe_ix (by
    have q := ix_tup (X := Y i)
    rw [F.hK i] at q
    exact q) (h1 i) (h2 i) hs, fun H1 e1 Q q => q1 H1 e1 _ fun v H2 e2 hv => q2 H2 (e1.trans (up_of e2)) _ fun u H3 e3 hu => ?_⟩
  cases hu
  cases dp_up (up_of e3) _ _ hv with
  | tup ht hx =>
    obtain ⟨v, hv1, hv2⟩ := atD hx hd
    exact ⟨_, _, i, v, rfl, rfl, ht, hv1, q v H3 (e2.trans e3) hv2⟩
theorem de_ixL (F : Fm P w K mg base k Y) (ha : DE Y K σ H a (.list ds)) (hb : DE Y K σ H b (.int i)) (hd : atI ds i = some d := by rfl) (hs : PlainIx b := by exact fun _ _ => rfl) : DE Y K σ H (.Subscript a b pos) d := by
  obtain ⟨t1, h1, q1⟩ := ha
  obtain ⟨t2, h2, q2⟩ := hb
  refine ⟨tOp (rIxL K) t1 t2, fun i => pe_ix (by
    have q := ix_list (X := Y i)
    rw [F.hK i] at q
    exact q) (h1 i) (h2 i) hs, fun H1 e1 Q q => q1 H1 e1 _ fun v H2 e2 hv => q2 H2 (e1.trans (up_of e2)) _ fun u H3 e3 hu => ?_⟩
  cases hu
  cases dp_up (up_of e3) _ _ hv with
  | lst ht hx =>
    obtain ⟨v, hv1, hv2⟩ := atD hx hd
    exact ⟨_, _, i, v, rfl, rfl, ht, hv1, q v H3 (e2.trans e3) hv2⟩
/-- a part of a slice -/
def OE {ι : Type} (Y : ι → Cx) (σ : L2.St) (H : Hp) (e : Option Expr) (o : Option Int) : Prop := ∃ t : TO, (∀ i, PO (Y i) e t) ∧ ∀ H1, Up H H1 → ∀ Q : Option Int → Hp → Prop, (∀ H2, Same H1 H2 → Q o H2) → t σ H1 Q
theorem oe_none : OE Y σ H none none := ⟨_, fun _ => po_none, fun H1 _ Q q => q H1 (Same.refl _)⟩
theorem oe_some (h : DE Y K σ H e (.int i)) : OE Y σ H (some e) (some i) := by
  obtain ⟨t1, h1, q1⟩ := h
  refine ⟨tPart t1, fun i => po_some (h1 i), fun H1 e1 Q q => q1 H1 e1 _ fun v H2 e2 hv => ?_⟩
  cases hv
  exact ⟨i, rfl, q H2 e2⟩
def cutD (ds : List PyData) (lo hi : Option Int) : List PyData := (ds.drop (HT.sIx ds.length 0 lo)).take (HT.sIx ds.length ds.length hi - HT.sIx ds.length 0 lo)
theorem cutD_of {K : PySem.W.Frag} {H : Hp} {vs : List V} {ds : List PyData} (lo hi : Option Int) (h : DpAll K H vs ds) : DpAll K H (cutV vs lo hi) (cutD ds lo hi) := by
  unfold cutV cutD
  rw [dpa_len (vs := vs) (ds := ds) _ _ h]
  exact dpa_take _ (dpa_drop _ h)
theorem cutD_all {ds : List PyData} {lo hi : Option Int} (h : HT.sIx ds.length 0 lo = 0 ∧ HT.sIx ds.length ds.length hi = ds.length) : cutD ds lo hi = ds := by
  unfold cutD
  rw [h.1, h.2]
  simp
theorem de_slT {lo hi : Option Expr} {l u : Option Int} {p2 : Pos} (F : Fm P w K mg base k Y) (ha : DE Y K σ H a (.tuple ds)) (hl : OE Y σ H lo l) (hu : OE Y σ H hi u) (hd : cutD ds l u = ds1 := by rfl) : DE Y K σ H (.Subscript a (.Slice lo hi none p2) pos) (.tuple ds1) := by
  obtain ⟨t1, h1, q1⟩ := ha
  obtain ⟨t2, h2, q2⟩ := hl
  obtain ⟨t3, h3, q3⟩ := hu
  refine ⟨tSl (rSlA K) t1 t2 t3, fun i => pe_slice (by
    have q := sl_tupA (X := Y i)
    rw [F.hK i] at q
    exact q) (h1 i) (h2 i) (h3 i), fun H1 e1 Q q => q1 H1 e1 _ fun v H2 e2 hv => q2 H2 (e1.trans (up_of e2)) _ fun H3 e3 => q3 H3 ((e1.trans (up_of e2)).trans (up_of e3)) _ fun H4 e4 => ?_⟩
  cases dp_up (up_of (e3.trans e4)) _ _ hv with
  | tup ht hx =>
    have hlen := dpa_len (vs := []) (ds := []) _ _ hx
    refine ⟨_, _, rfl, ht, fun hw => ?_, fun hw p hp => ?_⟩
    · rw [hlen] at hw
      refine q _ H4 ((e2.trans e3).trans e4) ?_
      rw [← hd, cutD_all hw]
      exact .tup ht hx
    · refine q _ _ (((e2.trans e3).trans e4).trans (same_new hp)) ?_
      rw [← hd]
      exact .tup (SqT.of upd_same) (dpa_up (up_of (same_new hp)) _ _ (cutD_of l u hx))
theorem de_catT (F : Fm P w K mg base k Y) (ha : DE Y K σ H a (.tuple ds1)) (hb : DE Y K σ H b (.tuple ds2)) (hz : Nat.ble (ds1.length + ds2.length) 16777216 = true := by rfl) : DE Y K σ H (.BinOp a .Add b pos) (.tuple (ds1 ++ ds2)) := by
  obtain ⟨t1, h1, q1⟩ := ha
  obtain ⟨t2, h2, q2⟩ := hb
  refine ⟨tOp (rCatA K) t1 t2, fun i => pe_op (by
    have q := op_catA (X := Y i)
    rw [F.hK i] at q
    exact q) (h1 i) (h2 i), fun H1 e1 Q q => q1 H1 e1 _ fun v H2 e2 hv => q2 H2 (e1.trans (up_of e2)) _ fun u H3 e3 hu => ?_⟩
  cases dp_up (up_of e3) _ _ hv with
  | tup ht hx =>
    cases hu with
    | tup ht2 hx2 =>
      have l1 := dpa_len (vs := []) (ds := []) _ _ hx
      have l2 := dpa_len (vs := []) (ds := []) _ _ hx2
      refine ⟨_, _, _, _, rfl, rfl, ht, ht2, by rw [l1, l2, sizeLine_eq]; exact Nat.le_of_ble_eq_true hz, fun z => ?_, fun _ z => ?_, fun _ _ p hp => ?_⟩
      · subst z
        have : ds1 = [] := by
          cases ds1 with
          | nil => rfl
          | cons _ _ => cases l1
        subst this
        exact q _ H3 (e2.trans e3) (.tup ht2 hx2)
      · subst z
        have : ds2 = [] := by
          cases ds2 with
          | nil => rfl
          | cons _ _ => cases l2
        subst this
        rw [List.append_nil] at q
        exact q _ H3 (e2.trans e3) (.tup ht hx)
      · exact q _ _ ((e2.trans e3).trans (same_new hp)) (.tup (SqT.of upd_same) (dpa_up (up_of (same_new hp)) _ _ (dpa_app hx hx2)))
theorem de_add (ha : DE Y K σ H a (.int i)) (hb : DE Y K σ H b (.int j)) : DE Y K σ H (.BinOp a .Add b pos) (.int (i + j)) := by
  obtain ⟨t1, h1, q1⟩ := ha
  obtain ⟨t2, h2, q2⟩ := hb
  refine ⟨_, fun i => pe_op op_add (h1 i) (h2 i), fun H1 e1 Q q => q1 H1 e1 _ fun v H2 e2 hv => q2 H2 (e1.trans (up_of e2)) _ fun u H3 e3 hu => ?_⟩
  cases hv
  cases hu
  exact ⟨_, _, rfl, rfl, q _ H3 (e2.trans e3) (.int _)⟩
theorem de_sub (ha : DE Y K σ H a (.int i)) (hb : DE Y K σ H b (.int j)) : DE Y K σ H (.BinOp a .Sub b pos) (.int (i - j)) := by
  obtain ⟨t1, h1, q1⟩ := ha
  obtain ⟨t2, h2, q2⟩ := hb
  refine ⟨_, fun i => pe_op op_sub (h1 i) (h2 i), fun H1 e1 Q q => q1 H1 e1 _ fun v H2 e2 hv => q2 H2 (e1.trans (up_of e2)) _ fun u H3 e3 hu => ?_⟩
  cases hv
  cases hu
  exact ⟨_, _, rfl, rfl, q _ H3 (e2.trans e3) (.int _)⟩
/-- -1 -/
theorem de_neg (ha : DE Y K σ H a (.int i)) : DE Y K σ H (.UnaryOp .USub a pos) (.int (-i)) := by
  obtain ⟨t1, h1, q1⟩ := ha
  refine ⟨_, fun i => pe_un un_neg (h1 i), fun H1 e1 Q q => q1 H1 e1 _ fun v H2 e2 hv => ?_⟩
  cases hv
  exact ⟨_, rfl, q _ H2 e2 (.int _)⟩

/-! ### calls -/
theorem de_call {sp : Sp} (F : Fm P w K mg base k Y) (G : FnC P w K mg base k' x sp) (ha : XA Y K σ H (e :: es) ys) (hsp : ∀ vs H1, Up H H1 → Vxs K H1 vs ys → ∀ Q : VK, (∀ v H2, Same H1 H2 → R v H2 → Q v H2) → sp vs H1 Q E0) (hk : k' ≤ k := by decide) (hg : ∀ i, Gl (Y i) x := by intro _; rfl)
    (hdb : (x == ("__debug__" : Str)) = false := by decide) (he : ∀ i, starEach (e :: es) (Y i).env = (false, eval e (Y i).env) :: starEach es (Y i).env := by intro _; rfl) (hpl : ∀ i, (backTo pos (starEach es (Y i).env)).any (·.1) = false := by intro _; rfl) : ER Y σ H (.Call (.Name x p) (e :: es) [] pos) R := by
  obtain ⟨f, fd, ps, G, kp, gm, bd⟩ := G
  obtain ⟨t1, h1, q1⟩ := ha
  refine ⟨tCall sp [] E0 t1, fun i => ?_, fun H1 e1 Q q => q1 H1 e1 _ fun vs H2 e2 hv => ?_⟩
  · have G' : FnOk (Y i).prog (Y i).w (Y i).K (Y i).mg (Y i).base CX0 k' f fd ps sp := by
      rw [F.hP i, F.hw i, F.hK i, F.hmg i, F.hb i]
      exact G
    exact pe_call G' ((F.rm i).mono hk) (hg i) (by rw [F.hmg i]; exact gm) (by rw [F.hK i]; exact kp) (by rw [F.hK i]; exact bd) .nil pass0 (h1 i) hdb (he i) (hpl i)
  · rw [List.append_nil]
    exact hsp vs H2 (e1.trans (up_of e2)) hv Q fun v H3 e3 h3 => q v H3 (e2.trans e3) h3
/-- f(e, ..), f a pure def -/
theorem de_f {pre : List Dx → PyData → Prop} (F : Fm P w K mg base k Y) (G : FnC P w K mg base k' x (Spf K pre)) (ha : XA Y K σ H (e :: es) ys) (hp : pre ys d) (hk : k' ≤ k := by decide) (hg : ∀ i, Gl (Y i) x := by intro _; rfl)
    (hdb : (x == ("__debug__" : Str)) = false := by decide) (he : ∀ i, starEach (e :: es) (Y i).env = (false, eval e (Y i).env) :: starEach es (Y i).env := by intro _; rfl) (hpl : ∀ i, (backTo pos (starEach es (Y i).env)).any (·.1) = false := by intro _; rfl) : DE Y K σ H (.Call (.Name x p) (e :: es) [] pos) d :=
  de_call F G ha (fun vs H1 _ hv Q q => ⟨ys, d, hv, hp, fun v H' e' h' => q v H' e' h'⟩) hk hg hdb he hpl
/-- a built-in called upon data, by its rule -/
theorem de_blt {id : String} {r : List V → Hp → VK → Prop} (F : Fm P w K mg base k Y) (hr : ∀ i, CallR (Y i) (.builtin id) r) (hx : mg x = none) (hv : bootBuiltins x = some (.builtin id)) (ha : XA Y K σ H (e :: es) ys)
    (hq : ∀ vs H1, Up H H1 → Vxs K H1 vs ys → ∀ Q : VK, (∀ v H2, Same H1 H2 → R v H2 → Q v H2) → r vs H1 Q) (hg : ∀ i, Gl (Y i) x := by intro _; rfl) (hn : x ≠ "__name__" := by decide) (hdb : (x == ("__debug__" : Str)) = false := by decide)
    (he : ∀ i, starEach (e :: es) (Y i).env = (false, eval e (Y i).env) :: starEach es (Y i).env := by intro _; rfl) (hpl : ∀ i, (backTo pos (starEach es (Y i).env)).any (·.1) = false := by intro _; rfl) : ER Y σ H (.Call (.Name x p) (e :: es) [] pos) R := by
  obtain ⟨t1, h1, q1⟩ := ha
  exact ⟨tCB r t1, fun i => pe_callB (hr i) (hg i) (by rw [F.hmg i]; exact hx) hv (h1 i) hn hdb (he i) (hpl i), fun H1 e1 Q q => q1 H1 e1 _ fun vs H2 e2 hv => hq vs H2 (e1.trans (up_of e2)) hv Q fun v H3 e3 h3 => q v H3 (e2.trans e3) h3⟩
theorem de_ty {T : String} {r : List V → Hp → VK → Prop} (F : Fm P w K mg base k Y) (hr : ∀ i, CallR (Y i) (.type T) r) (hx : mg x = none) (hv : bootBuiltins x = some (.type T)) (ha : XA Y K σ H (e :: es) ys)
    (hq : ∀ vs H1, Up H H1 → Vxs K H1 vs ys → ∀ Q : VK, (∀ v H2, Same H1 H2 → R v H2 → Q v H2) → r vs H1 Q) (hg : ∀ i, Gl (Y i) x := by intro _; rfl) (hn : x ≠ "__name__" := by decide) (hdb : (x == ("__debug__" : Str)) = false := by decide)
    (he : ∀ i, starEach (e :: es) (Y i).env = (false, eval e (Y i).env) :: starEach es (Y i).env := by intro _; rfl) (hpl : ∀ i, (backTo pos (starEach es (Y i).env)).any (·.1) = false := by intro _; rfl) : ER Y σ H (.Call (.Name x p) (e :: es) [] pos) R := by
  obtain ⟨t1, h1, q1⟩ := ha
  exact ⟨tCB r t1, fun i => pe_callTy (hr i) (hg i) (by rw [F.hmg i]; exact hx) hv (h1 i) hn hdb (he i) (hpl i), fun H1 e1 Q q => q1 H1 e1 _ fun vs H2 e2 hv => hq vs H2 (e1.trans (up_of e2)) hv Q fun v H3 e3 h3 => q v H3 (e2.trans e3) h3⟩
theorem vxs1 {K : PySem.W.Frag} {H : Hp} {vs : List V} {y1 : Dx} (h : Vxs K H vs [y1]) : ∃ v, vs = [v] ∧ Vx K H v y1 := by
  cases h with
  | cons h t =>
    cases t
    exact ⟨_, rfl, h⟩
theorem vxs2 {K : PySem.W.Frag} {H : Hp} {vs : List V} {y1 y2 : Dx} (h : Vxs K H vs [y1, y2]) : ∃ v u, vs = [v, u] ∧ Vx K H v y1 ∧ Vx K H u y2 := by
  cases h with
  | cons h t =>
    obtain ⟨u, rfl, h2⟩ := vxs1 t
    exact ⟨_, _, rfl, h, h2⟩
theorem vxs3 {K : PySem.W.Frag} {H : Hp} {vs : List V} {y1 y2 y3 : Dx} (h : Vxs K H vs [y1, y2, y3]) : ∃ v u w, vs = [v, u, w] ∧ Vx K H v y1 ∧ Vx K H u y2 ∧ Vx K H w y3 := by
  cases h with
  | cons h t =>
    obtain ⟨u, w, rfl, h2, h3⟩ := vxs2 t
    exact ⟨_, _, _, rfl, h, h2, h3⟩
theorem vxs4 {K : PySem.W.Frag} {H : Hp} {vs : List V} {y1 y2 y3 y4 : Dx} (h : Vxs K H vs [y1, y2, y3, y4]) : ∃ v u w z, vs = [v, u, w, z] ∧ Vx K H v y1 ∧ Vx K H u y2 ∧ Vx K H w y3 ∧ Vx K H z y4 := by
  cases h with
  | cons h t =>
    obtain ⟨u, w, z, rfl, h2, h3, h4⟩ := vxs3 t
    exact ⟨_, _, _, _, rfl, h, h2, h3, h4⟩
theorem vxs5 {K : PySem.W.Frag} {H : Hp} {vs : List V} {y1 y2 y3 y4 y5 : Dx} (h : Vxs K H vs [y1, y2, y3, y4, y5]) : ∃ v u w z o, vs = [v, u, w, z, o] ∧ Vx K H v y1 ∧ Vx K H u y2 ∧ Vx K H w y3 ∧ Vx K H z y4 ∧ Vx K H o y5 := by
  cases h with
  | cons h t =>
    obtain ⟨u, w, z, o, rfl, h2, h3, h4, h5⟩ := vxs4 t
    exact ⟨_, _, _, _, _, rfl, h, h2, h3, h4, h5⟩
/-- isinstance(x, T), T a built-in class by name -/
theorem de_isi (t : Bt) {n : Str} {p2 : Pos} (F : Fm P w K mg base k Y) (g : mg "isinstance" = none) (gT : mg n = none) (ha : DE Y K σ H a d) (hT : n = Str.ofString t.n := by rfl) (hg : ∀ i, Gl (Y i) "isinstance" := by intro _; rfl) (hg2 : ∀ i, Gl (Y i) n := by intro _; rfl)
    (hn : n ≠ "__name__" := by decide) (hd : (n == ("__debug__" : Str)) = false := by decide) (he : ∀ i, starEach [a, .Name n p2] (Y i).env = (false, eval a (Y i).env) :: starEach [.Name n p2] (Y i).env := by intro _; rfl)
    (he2 : ∀ i, starEach [.Name n p2] (Y i).env = (false, eval (.Name n p2) (Y i).env) :: starEach [] (Y i).env := by intro _; rfl) (hpl : ∀ i, (backTo pos (starEach [.Name n p2] (Y i).env)).any (·.1) = false := by intro _; rfl) : DE Y K σ H (.Call (.Name "isinstance" p) [a, .Name n p2] [] pos) (.bool (isiD d t)) := by
  obtain ⟨t1, h1, q1⟩ := ha
  refine ⟨tCB (rIsi K) (tCons t1 (tCons (tC (.ty t.n)) tNil)), fun i => pe_callB (by
    have q := call_isi (X := Y i)
    rw [F.hK i] at q
    exact q) (hg i) (by rw [F.hmg i]; exact g) boot_isinstance (pa_cons (h1 i) (pa_cons (pe_bltn (hg2 i) (by rw [F.hmg i]; exact gT) (boot_bt t hT) rfl hn hd) pa_nil (he2 i)) (he i)) (by decide) (by decide) (he i) (hpl i), fun H1 e1 Q q => q1 H1 e1 _ fun v H2 e2 hv => ?_⟩
  exact ⟨v, .ty t.n, _, _, isiD d t, rfl, .ty t.n, ty_of hv, kit_ty (kit_tab d t), q _ H2 e2 (.bl _)⟩
theorem de_len (F : Fm P w K mg base k Y) (g : mg "len" = none) (ha : DE Y K σ H a d) (hd : d = .tuple ds ∨ d = .list ds) (hg : ∀ i, Gl (Y i) "len" := by intro _; rfl)
    (he : ∀ i, starEach [a] (Y i).env = (false, eval a (Y i).env) :: starEach [] (Y i).env := by intro _; rfl) (hpl : ∀ i, (backTo pos (starEach [] (Y i).env)).any (·.1) = false := by intro _; rfl) : DE Y K σ H (.Call (.Name "len" p) [a] [] pos) (.int ds.length) := by
  refine de_blt F (r := fun xs H Q => ∃ p ys, xs = [.ref p] ∧ (SqL K H p ys ∨ SqT K H p ys) ∧ Q (.int ys.length) H) (fun i => ?_) g boot_len (xa_d ha xa_nil he) (fun vs H1 _ hv Q q => ?_) hg (by decide) (by decide) he hpl
  · have q := call_len_seq (X := Y i)
    rw [F.hK i] at q
    exact q
  · obtain ⟨v, rfl, hv1⟩ := vxs1 hv
    have hv : Dp K H1 v d := hv1
    rcases hd with rfl | rfl
    · cases hv with
      | tup ht hx =>
        refine ⟨_, _, rfl, .inr ht, q _ H1 (Same.refl _) ?_⟩
        rw [dpa_len (vs := []) (ds := []) _ _ hx]
        exact .int _
    · cases hv with
      | lst ht hx =>
        refine ⟨_, _, rfl, .inl ht, q _ H1 (Same.refl _) ?_⟩
        rw [dpa_len (vs := []) (ds := []) _ _ hx]
        exact .int _
theorem de_intb (F : Fm P w K mg base k Y) (g : mg "int" = none) (ha : DE Y K σ H a (.bool b1)) (hg : ∀ i, Gl (Y i) "int" := by intro _; rfl)
    (he : ∀ i, starEach [a] (Y i).env = (false, eval a (Y i).env) :: starEach [] (Y i).env := by intro _; rfl) (hpl : ∀ i, (backTo pos (starEach [] (Y i).env)).any (·.1) = false := by intro _; rfl) : DE Y K σ H (.Call (.Name "int" p) [a] [] pos) (.int (bif b1 then 1 else 0)) := by
  refine de_ty F (fun i => call_int1) g PyProof.Rows.boot_int (xa_d ha xa_nil he) (fun vs H1 _ hv Q q => ?_) hg (by decide) (by decide) he hpl
  obtain ⟨v, rfl, hv1⟩ := vxs1 hv
  cases hv1
  refine .inr ⟨b1, rfl, q _ H1 (Same.refl _) ?_⟩
  cases b1 <;> exact .int _
theorem de_inti (F : Fm P w K mg base k Y) (g : mg "int" = none) (ha : DE Y K σ H a (.int i)) (hg : ∀ i, Gl (Y i) "int" := by intro _; rfl)
    (he : ∀ i, starEach [a] (Y i).env = (false, eval a (Y i).env) :: starEach [] (Y i).env := by intro _; rfl) (hpl : ∀ i, (backTo pos (starEach [] (Y i).env)).any (·.1) = false := by intro _; rfl) : DE Y K σ H (.Call (.Name "int" p) [a] [] pos) (.int i) := by
  refine de_ty F (fun i => call_int1) g PyProof.Rows.boot_int (xa_d ha xa_nil he) (fun vs H1 _ hv Q q => ?_) hg (by decide) (by decide) he hpl
  obtain ⟨v, rfl, hv1⟩ := vxs1 hv
  cases hv1
  exact .inl ⟨i, rfl, q _ H1 (Same.refl _) (.int i)⟩
theorem de_min2 (F : Fm P w K mg base k Y) (g : mg "min" = none) (ha : DE Y K σ H a (.int i)) (hb : DE Y K σ H b (.int j)) (hg : ∀ i, Gl (Y i) "min" := by intro _; rfl)
    (he : ∀ i, starEach [a, b] (Y i).env = (false, eval a (Y i).env) :: starEach [b] (Y i).env := by intro _; rfl) (he2 : ∀ i, starEach [b] (Y i).env = (false, eval b (Y i).env) :: starEach [] (Y i).env := by intro _; rfl) (hpl : ∀ i, (backTo pos (starEach [b] (Y i).env)).any (·.1) = false := by intro _; rfl) :
    DE Y K σ H (.Call (.Name "min" p) [a, b] [] pos) (.int (if j < i then j else i)) := by
  refine de_blt F (fun i => call_min2 (F.calm i)) g PyProof.Rows.boot_min (xa_d ha (xa_d hb xa_nil he2) he) (fun vs H1 _ hv Q q => ?_) hg (by decide) (by decide) he hpl
  obtain ⟨v, u, rfl, hv1, hu⟩ := vxs2 hv
  cases hv1
  cases hu
  exact ⟨i, j, rfl, q _ H1 (Same.refl _) (.int _)⟩
/-- tuple(x) -/
theorem de_tupleOf (F : Fm P w K mg base k Y) (g : mg "tuple" = none) (ha : DE Y K σ H a d) (hd : d = .tuple ds ∨ d = .list ds) (hg : ∀ i, Gl (Y i) "tuple" := by intro _; rfl)
    (he : ∀ i, starEach [a] (Y i).env = (false, eval a (Y i).env) :: starEach [] (Y i).env := by intro _; rfl) : DE Y K σ H (.Call (.Name "tuple" p) [a] [] pos) (.tuple ds) := by
  obtain ⟨t1, h1, q1⟩ := ha
  refine ⟨tThen t1 (kTup K), fun i => by
    have q := pe_tupleOf (p := p) (pos := pos) (hg i) (by rw [F.hmg i]; exact g) (h1 i) (he i)
    rw [F.hK i] at q
    exact q, fun H1 e1 Q q => q1 H1 e1 _ fun v H2 e2 hv => ?_⟩
  rcases hd with rfl | rfl
  · cases hv with
    | tup ht hx => exact .inr ⟨_, _, rfl, ht, q _ H2 e2 (.tup ht hx)⟩
  · cases hv with
    | lst ht hx => exact .inl ⟨_, _, rfl, ht, fun z hz => q _ _ (e2.trans (same_new hz)) (.tup (SqT.of upd_same) (dpa_up (up_of (same_new hz)) _ _ hx))⟩
/-- all(a list of truth values) -/
theorem de_all {bs : List Bool} (F : Fm P w K mg base k Y) (g : mg "all" = none) (ha : DE Y K σ H a (.list (bs.map .bool))) (hg : ∀ i, Gl (Y i) "all" := by intro _; rfl)
    (he : ∀ i, starEach [a] (Y i).env = (false, eval a (Y i).env) :: starEach [] (Y i).env := by intro _; rfl) (hpl : ∀ i, (backTo pos (starEach [] (Y i).env)).any (·.1) = false := by intro _; rfl) : DE Y K σ H (.Call (.Name "all" p) [a] [] pos) (.bool (bs.all id)) := by
  have key : ∀ (bs : List Bool) (H : Hp) (vs : List V), DpAll K H vs (bs.map .bool) → vs = bs.map V.bl := by
    intro bs
    induction bs with
    | nil =>
      intro H vs h
      cases h
      rfl
    | cons b bs ih =>
      intro H vs h
      cases h with
      | cons h1 h2 =>
        cases h1
        rw [ih H _ h2] <;> rfl
  refine de_blt F (r := rAll K) (fun i => ?_) g PyProof.Rows.boot_all (xa_d ha xa_nil he) (fun vs H1 _ hv Q q => ?_) hg (by decide) (by decide) he hpl
  · have q := cr_all (X := Y i) (F.calm i)
    rw [F.hK i] at q
    exact q
  · obtain ⟨v, rfl, hv1⟩ := vxs1 hv
    have hv : Dp K H1 v (.list (bs.map .bool)) := hv1
    cases hv with
    | lst ht hx =>
      rw [key bs H1 _ hx] at ht
      exact ⟨_, bs, rfl, ht, q _ H1 (Same.refl _) (.bl _)⟩
/-- script.steps -/
theorem de_steps (F : Fm P w K mg base k Y) (hC : Cls K (He.ga K "Script")) (hN : NoAttr K (He.ga K "Script") "steps") (ha : XE Y K σ H a (.scr ds)) (hb : ∀ i, attributeBase a "steps" (Y i).env (eval a (Y i).env) = eval a (Y i).env := by intro _; rfl) : DE Y K σ H (.Attribute a "steps" pos) (.tuple ds) := by
  obtain ⟨t1, h1, q1⟩ := ha
  refine ⟨tFld K t1 "steps", fun i => by
    have q := pe_fld (pos := pos) (f := "steps") (h1 i) (hb i)
    rw [F.hK i] at q
    exact q, fun H1 e1 Q q => q1 H1 e1 _ fun v H2 e2 hv => ?_⟩
  obtain ⟨p, dx, tv, rfl, ho, ht⟩ := hv
  exact ⟨p, _, dx, _, tv, rfl, ho, hC, hN, rfl, q tv H2 e2 ht⟩
end
end PK
namespace PK
open L2 PySem PySem.Spec PyProof.Rows
section
variable {ι : Type} {Y : ι → Cx} {P : Program} {w : World} {K : PySem.W.Frag} {mg : Str → Option Value} {base : Heap} {k k' : Nat} {σ : L2.St} {H H' : Hp} {a b c e : Expr} {es : List Expr} {pos p : Pos} {d d1 d2 : PyData} {ds ds1 ds2 : List PyData} {x : Str} {b1 b2 : Bool} {D : Ends} {R : V → Hp → Prop} {y : Dx} {ys : List Dx} {rest body els : List Stmt} {s s2 : Str} {i j : Int} {st : Stmt} {r : PyData}
/-- what stands behind leads on -/
def cont {ι : Type} (Y : ι → Cx) (D : Ends) (rest : List Stmt) : Ends := { D with nx := fun σ' H' => DSs Y D σ' H' rest }
theorem pss_rest (l : ι) : PSs (Y l) rest (fun D σ H => DSs Y D σ H rest) := ⟨fun pins s σ H D I h => by
  obtain ⟨t, ht, h⟩ := h
  exact (ht l).run pins s σ H D I h⟩
theorem ds_cons (h : DS Y (cont Y D rest) σ H st) : DSs Y D σ H (st :: rest) := by
  obtain ⟨t, ht, h⟩ := h
  exact ⟨tSeq t fun D σ H => DSs Y D σ H rest, fun l => pss_cons (ht l) (pss_rest l), h⟩
theorem ds_nil (h : D.nx σ H) : DSs Y D σ H [] := ⟨tNext, fun _ => pss_nil, h⟩
theorem ds_no (h : False) : DSs Y D σ H rest := h.elim
theorem ds_ret (h : DE Y K σ H e d) (hq : Ret K r H D.rt) (hd : d = r) : DSs Y D σ H (.Return (some e) pos :: rest) := by
  obtain ⟨t, ht, h⟩ := h
  subst hd
  exact ds_cons ⟨tRet t, fun l => ps_ret (ht l), h H (Up.refl H) _ fun v H' e' h' => hq v H' e' h'⟩
theorem ds_retR (h : ER Y σ H e R) (hq : ∀ v H', Same H H' → R v H' → D.rt v H') : DSs Y D σ H (.Return (some e) pos :: rest) := by
  obtain ⟨t, ht, h⟩ := h
  exact ds_cons ⟨tRet t, fun l => ps_ret (ht l), h H (Up.refl H) _ hq⟩
theorem ds_ife (hc : DT Y σ H c b1) (h1 : b1 = true → ∀ H1, Same H H1 → DSs Y (cont Y D rest) σ H1 body) (h2 : b1 = false → ∀ H1, Same H H1 → DSs Y (cont Y D rest) σ H1 els) : DSs Y D σ H (.If c body els pos :: rest) := by
  obtain ⟨t, ht, h⟩ := hc
  refine ds_cons ⟨tIfS t (fun D σ H => DSs Y D σ H body) fun D σ H => DSs Y D σ H els, fun l => ps_if (ht l) (pss_rest l) (pss_rest l), h H (Up.refl H) _ fun H1 e1 => ?_⟩
  cases b1 with
  | true => exact iteT (h1 rfl H1 e1)
  | false => exact iteF (h2 rfl H1 e1)
theorem ds_if (hc : DT Y σ H c b1) (h1 : b1 = true → ∀ H1, Same H H1 → DSs Y (cont Y D rest) σ H1 body) (h2 : b1 = false → ∀ H1, Same H H1 → DSs Y D σ H1 rest) : DSs Y D σ H (.If c body [] pos :: rest) :=
  ds_ife hc h1 fun q H1 e1 => ds_nil (h2 q H1 e1)
/-- if c: raise ..: where c is false -/
theorem ds_guard (hc : DT Y σ H c false) (h2 : ∀ H1, Same H H1 → DSs Y D σ H1 rest) : DSs Y D σ H (.If c body [] pos :: rest) :=
  ds_if hc (fun q => by cases q) fun _ => h2
theorem ds_set (j : Nat) {pos' : Pos} (h : ER Y σ H e R) (hk : ∀ v H1, Same H H1 → R v H1 → DSs Y D (σ.set j (some v)) H1 rest) (F : Fm P w K mg base k Y) (hi : ∀ l, (Y l).N[j]? = some x := by intro _; rfl) (hx : ∀ l, Loc (Y l).env.scope x := by intro _; first | exact Or.inl rfl | exact Or.inr rfl)
    (hs : ∀ l, swapsWith e (some (.Name x pos')) pos.line (Y l).env = pure false := by intro _; rfl) (hf : ∀ l, (Y l).fn x = true ∨ (Y l).env.scope.names.lookup x = some .local := by intro _; first | exact .inl rfl | exact .inr rfl) : DSs Y D σ H (.Assign [.Name x pos'] e pos :: rest) := by
  obtain ⟨t, ht, h⟩ := h
  exact ds_cons ⟨tAsg t (gName j), fun l => ps_set (F.nd l) (hi l) (hx l) (ht l) (hs l) (hf l), h H (Up.refl H) _ fun v H1 e1 h1 => hk v H1 e1 h1⟩
theorem ds_expr (h : ER Y σ H e R) (hk : ∀ v H1, Same H H1 → R v H1 → DSs Y D σ H1 rest) (hs : ∀ l, swapsWith e none pos.line (Y l).env = pure false := by intro _; rfl) : DSs Y D σ H (.Expr e pos :: rest) := by
  obtain ⟨t, ht, h⟩ := h
  exact ds_cons ⟨tDrop t, fun l => ps_expr (ht l) (hs l), h H (Up.refl H) _ fun v H1 e1 h1 => hk v H1 e1 h1⟩

/-! ### a, b, .. = a tuple of data -/
/-- targets that are names, by their slots -/
def GN {ι : Type} (Y : ι → Cx) (es : List Expr) (js : List Nat) : Prop := ∃ g : TGs, (∀ l, PGs (Y l) es g) ∧ ∀ (vs : List V) (σ : L2.St) (H : Hp) (Q : L2.St → Hp → Prop), vs.length = js.length → Q ((js.zip vs).foldl (fun s q => s.set q.1 (some q.2)) σ) H → g vs σ H Q
theorem gn_nil : GN Y [] [] := ⟨gNil, fun _ => pgs_nil, fun vs σ H Q hl q => ⟨List.length_eq_zero_iff.mp hl, by cases vs with
  | nil => exact q
  | cons _ _ => cases hl⟩⟩
theorem gn_cons {js : List Nat} (F : Fm P w K mg base k Y) (j : Nat) (h : GN Y es js) (hi : ∀ l, (Y l).N[j]? = some x := by intro _; rfl) (hx : ∀ l, Loc (Y l).env.scope x := by intro _; first | exact Or.inl rfl | exact Or.inr rfl)
    (hf : ∀ l, (Y l).fn x = true ∨ (Y l).env.scope.names.lookup x = some .local := by intro _; first | exact .inl rfl | exact .inr rfl)
    (hs : ∀ l, (assignEach (.Name x pos :: es) (Y l).env).map (·.2) = assign (.Name x pos) (Y l).env :: (assignEach es (Y l).env).map (·.2) := by intro _; rfl) : GN Y (.Name x pos :: es) (j :: js) := by
  obtain ⟨g, hg, q⟩ := h
  refine ⟨gCons (gName j) g, fun l => pgs_cons (pg_name (F.nd l) (hi l) (hx l) (hf l)) (hg l) (hs l), fun vs σ H Q hl h => ?_⟩
  cases vs with
  | nil => cases hl
  | cons v vs => exact ⟨v, vs, rfl, q vs _ H Q (Nat.succ.inj hl) h⟩
def sets (js : List Nat) (vs : List V) (σ : L2.St) : L2.St := (js.zip vs).foldl (fun s q => s.set q.1 (some q.2)) σ
theorem ds_unp {js : List Nat} {n : Nat} {tp : Pos} (F : Fm P w K mg base k Y) (h : DE Y K σ H e (.tuple ds)) (g : GN Y es js) (hk : ∀ vs H1, Same H H1 → DpAll K H1 vs ds → DSs Y D (sets js vs σ) H1 rest) (hl : ds.length = js.length := by rfl)
    (hn : ∀ l, (assignEach es (Y l).env).length = js.length := by intro _; rfl) (hst : ∀ l, (assignEach es (Y l).env).findIdx? (·.1) = none := by intro _; rfl)
    (hs : ∀ l, swapsWithSole [.Tuple es n tp] e pos.line (Y l).env = pure false := by intro _; rfl) (hw : ∀ l, swappedStores [.Tuple es n tp] e (Y l).env = pure none := by intro _; rfl) : DSs Y D σ H (.Assign [.Tuple es n tp] e pos :: rest) := by
  obtain ⟨t, ht, h⟩ := h
  obtain ⟨g, hg, q⟩ := g
  refine ds_cons ⟨tAsg t (gTup K js.length g), fun l => ps_asg (ht l) (by
    have z := pg_tup (k := n) (pos := tp) (F.calm l) (hg l) (hn l) (hst l)
    rw [F.hK l] at z
    exact z) (hs l) (hw l), h H (Up.refl H) _ fun v H1 e1 h1 => ?_⟩
  cases h1 with
  | tup hq hx =>
    have hlen := dpa_len (vs := []) (ds := []) _ _ hx
    exact ⟨_, _, rfl, hq, by rw [hlen]; exact hl, q _ σ H1 _ (by rw [hlen]; exact hl) (hk _ H1 e1 hx)⟩
/-- a, b = e, f -/
theorem ds_par {jx jy : Nat} {xn yn : Str} {px py pt pt2 : Pos} {kt k2 : Nat} {y1 y2 : Dx} (F : Fm P w K mg base k Y) (h1 : XE Y K σ H a y1) (h2 : XE Y K σ H b y2) (hk : ∀ v u H1, Same H H1 → Vx K H1 v y1 → Vx K H1 u y2 → DSs Y D ((σ.set jx (some v)).set jy (some u)) H1 rest)
    (hi : ∀ l, (Y l).N[jx]? = some xn := by intro _; rfl) (hj : ∀ l, (Y l).N[jy]? = some yn := by intro _; rfl) (hij : jx ≠ jy := by decide) (hx : ∀ l, (Y l).env.scope.names.lookup xn = some .local := by intro _; rfl) (hy : ∀ l, (Y l).env.scope.names.lookup yn = some .local := by intro _; rfl)
    (hw : ∀ l, swappedStores [.Tuple [.Name xn px, .Name yn py] kt pt] (.Tuple [a, b] k2 pt2) (Y l).env = pure (some [xn, yn]) := by intro _; rfl) (hs : ∀ l, swapsWithSole [.Tuple [.Name xn px, .Name yn py] kt pt] (.Tuple [a, b] k2 pt2) pos.line (Y l).env = pure false := by intro _; rfl)
    (he : ∀ l, starEach [a, b] (Y l).env = (false, eval a (Y l).env) :: starEach [b] (Y l).env := by intro _; rfl) (he2 : ∀ l, starEach [b] (Y l).env = (false, eval b (Y l).env) :: starEach [] (Y l).env := by intro _; rfl) :
    DSs Y D σ H (.Assign [.Tuple [.Name xn px, .Name yn py] kt pt] (.Tuple [a, b] k2 pt2) pos :: rest) := by
  obtain ⟨t, ht, h⟩ := xa_x h1 (xa_x h2 xa_nil he2) he
  refine ds_cons ⟨tPar jx jy t, fun l => ps_par (F.calm l) (F.nd l) (hi l) (hj l) hij (hx l) (hy l) (ht l) (hw l) (hs l), h H (Up.refl H) _ fun vs H1 e1 hv => ?_⟩
  obtain ⟨v, u, rfl, z1, z2⟩ := vxs2 hv
  exact ⟨v, u, rfl, hk v u H1 e1 z1 z2⟩
/-- a, b, c = e, f, g -/
theorem ds_par3 {jx jy jz : Nat} {xn yn zn : Str} {px py pz pt pt2 : Pos} {kt k2 : Nat} {y1 y2 y3 : Dx} (F : Fm P w K mg base k Y) (h1 : XE Y K σ H a y1) (h2 : XE Y K σ H b y2) (h3 : XE Y K σ H c y3) (hk : ∀ v u q H1, Same H H1 → Vx K H1 v y1 → Vx K H1 u y2 → Vx K H1 q y3 → DSs Y D (((σ.set jx (some v)).set jy (some u)).set jz (some q)) H1 rest)
    (hi : ∀ l, (Y l).N[jx]? = some xn := by intro _; rfl) (hj : ∀ l, (Y l).N[jy]? = some yn := by intro _; rfl) (hl : ∀ l, (Y l).N[jz]? = some zn := by intro _; rfl) (hij : jx ≠ jy := by decide) (hil : jx ≠ jz := by decide) (hjl : jy ≠ jz := by decide)
    (hx : ∀ l, (Y l).env.scope.names.lookup xn = some .local := by intro _; rfl) (hy : ∀ l, (Y l).env.scope.names.lookup yn = some .local := by intro _; rfl) (hz : ∀ l, (Y l).env.scope.names.lookup zn = some .local := by intro _; rfl)
    (hw : ∀ l, swappedStores [.Tuple [.Name xn px, .Name yn py, .Name zn pz] kt pt] (.Tuple [a, b, c] k2 pt2) (Y l).env = pure (some [xn, yn, zn]) := by intro _; rfl) (hs : ∀ l, swapsWithSole [.Tuple [.Name xn px, .Name yn py, .Name zn pz] kt pt] (.Tuple [a, b, c] k2 pt2) pos.line (Y l).env = pure false := by intro _; rfl)
    (he : ∀ l, starEach [a, b, c] (Y l).env = (false, eval a (Y l).env) :: starEach [b, c] (Y l).env := by intro _; rfl) (he2 : ∀ l, starEach [b, c] (Y l).env = (false, eval b (Y l).env) :: starEach [c] (Y l).env := by intro _; rfl) (he3 : ∀ l, starEach [c] (Y l).env = (false, eval c (Y l).env) :: starEach [] (Y l).env := by intro _; rfl) :
    DSs Y D σ H (.Assign [.Tuple [.Name xn px, .Name yn py, .Name zn pz] kt pt] (.Tuple [a, b, c] k2 pt2) pos :: rest) := by
  obtain ⟨t, ht, h⟩ := xa_x h1 (xa_x h2 (xa_x h3 xa_nil he3) he2) he
  refine ds_cons ⟨tPar3 jx jy jz t, fun l => ps_par3 (F.calm l) (F.nd l) (hi l) (hj l) (hl l) hij hil hjl (hx l) (hy l) (hz l) (ht l) (hw l) (hs l), h H (Up.refl H) _ fun vs H1 e1 hv => ?_⟩
  obtain ⟨v, u, q, rfl, z1, z2, z3⟩ := vxs3 hv
  exact ⟨v, u, q, rfl, hk v u q H1 e1 z1 z2 z3⟩
end

/-! ## a def by its body -/
abbrev FnP (K : PySem.W.Frag) (x : Str) (st : Stmt) (f : Addr) (fd : FuncData) : Prop := FunD K x x (defArgs st) (defBody st) (defScope st) [] [] f fd
section
variable {P : Program} {w : World} {K : PySem.W.Frag} {mg : Str → Option Value} {base : Heap}
/-- the contexts of a def's body -/
abbrev bodyY (P : Program) (w : World) (K : PySem.W.Frag) (mg : Str → Option Value) (base : Heap) (N : List Str) (qual : Str) (sc : Scope) (f : Addr) (cdv : Value) (A : Around) (outer : List Env) (s : Shared) (H : Hp) (E : XK) : Unit → Cx := fun _ => (cxOf CX0 P w K mg base N qual sc f cdv A outer s H E).nox
theorem fnC_of {x : Str} {st : Stmt} {N ps : List Str} {k : Nat} {sp : Sp} (hF : ∃ fd, FnP K x st (He.ga K x) fd) (hm : mg x = some (.ref (He.ga K x))) (S : FnScope N ps (defScope st))
    (hb : ∀ (kV doc pm : Value) (an : Option Addr) (cdv ct : Value) (us : List Value), us.length = ps.length → bindArgs (PySem.W.fnOf x x (defArgs st) (defBody st) (defScope st) .none kV doc pm an cdv ct) ⟨us, []⟩ = pure (ps.zip us)) (len : ∀ vs H Q E, sp vs H Q E → vs.length = ps.length)
    (hbody : ∀ (cdv : Value) (A : Around) (outer : List Env) (s : Shared) (H : Hp) (vs : List V) (Q : VK) (E : XK), Fm P w K mg base k (bodyY P w K mg base N x (defScope st) (He.ga K x) cdv A outer s H E) → sp vs H Q E →
      DSs (bodyY P w K mg base N x (defScope st) (He.ga K x) cdv A outer s H E) { nx := fun _ H' => Q .non H', rt := Q } (start N vs) H (defBody st)) : FnC P w K mg base (k + 1) x sp := by
  obtain ⟨fd, hF⟩ := hF
  refine ⟨He.ga K x, fd, ps, hF.ok S len fun cdv A outer s H vs Q E hr hs => ?_, hF.kp, hm, hF.bindsN hb⟩
  obtain ⟨t, ht, h⟩ := hbody cdv A outer s H vs Q E ⟨fun _ => rfl, fun _ => rfl, fun _ => rfl, fun _ => rfl, fun _ => rfl, fun _ => rfl, fun _ => hr, fun _ => S.nd⟩ hs
  exact ⟨t, (ht ()).nox, h⟩
/-- the same for a pure def -/
theorem fnC_pure {x : Str} {st : Stmt} {N ps : List Str} {k : Nat} {pre : List Dx → PyData → Prop} (hF : ∃ fd, FnP K x st (He.ga K x) fd) (hm : mg x = some (.ref (He.ga K x))) (S : FnScope N ps (defScope st))
    (hb : ∀ (kV doc pm : Value) (an : Option Addr) (cdv ct : Value) (us : List Value), us.length = ps.length → bindArgs (PySem.W.fnOf x x (defArgs st) (defBody st) (defScope st) .none kV doc pm an cdv ct) ⟨us, []⟩ = pure (ps.zip us)) (len : ∀ xs r, pre xs r → xs.length = ps.length)
    (hbody : ∀ (Y : Unit → Cx) (cdv : Value) (A : Around) (outer : List Env) (s : Shared) (H : Hp) (vs : List V) (xs : List Dx) (r : PyData) (Q : VK) (E : XK), Y = bodyY P w K mg base N x (defScope st) (He.ga K x) cdv A outer s H E → Fm P w K mg base k Y → Vxs K H vs xs → pre xs r → Ret K r H Q →
      DSs Y { nx := fun _ H' => Q .non H', rt := Q } (start N vs) H (defBody st)) : FnC P w K mg base (k + 1) x (Spf K pre) := by
  refine fnC_of hF hm S hb (fun vs H Q E h => ?_) fun cdv A outer s H vs Q E F h => ?_
  · obtain ⟨xs, r, h1, h2, _⟩ := h
    rw [Paired.length h1]
    exact len xs r h2
  · obtain ⟨xs, r, h1, h2, h3⟩ := h
    exact hbody _ cdv A outer s H vs xs r Q E rfl F h1 h2 h3
end
end PK
namespace PK
open L2 PySem PySem.Spec PyProof.Rows
/-! ## data without lists: it stays where the tuples stay -/
mutual
def noL : PyData → Bool
  | .list _ => false
  | .tuple ds => noLs ds
  | .dict _ => false
  | _ => true
def noLs : List PyData → Bool
  | [] => true
  | d :: ds => noL d && noLs ds
end
def UpT (H H' : Hp) : Prop := (∀ a xs, H a = some (.tup xs) → H' a = some (.tup xs)) ∧ ∀ a o u, H a = some (.frz o u) → H' a = some (.frz o u)
theorem upT_of {H H' : Hp} (e : Same H H') : UpT H H' := ⟨fun a xs h => e a _ h, fun a o u h => e a _ h⟩
theorem UpT.trans {H H1 H2 : Hp} (a : UpT H H1) (b : UpT H1 H2) : UpT H H2 := ⟨fun c xs h => b.1 c xs (a.1 c xs h), fun c o u h => b.2 c o u (a.2 c o u h)⟩
theorem upT_lst {H : Hp} {D : Addr} {acc acc' : List V} (h : H D = some (.lst acc)) : UpT H (upd H D (.lst acc')) := ⟨fun a xs q => by
  rw [upd_ne (ne_of q h (by intro z; cases z))]
  exact q, fun a o u q => by
  rw [upd_ne (ne_of q h (by intro z; cases z))]
  exact q⟩
section
variable {K : PySem.W.Frag} {H H' : Hp}
theorem upT_t (e : UpT H H') {a : Addr} {xs : List V} (h : SqT K H a xs) : SqT K H' a xs := by
  rcases h with (h | ⟨o, h⟩) | h
  · exact .inl (.inl (e.1 _ _ h))
  · exact .inl (.inr ⟨o, e.2 _ _ _ h⟩)
  · exact .inr h
mutual
theorem dp_upT (e : UpT H H') : ∀ (d : PyData) (v : V), noL d = true → Dp K H v d → Dp K H' v d
  | .none, _, _, h => by
    cases h
    exact .non
  | .bool b, _, _, h => by
    cases h
    exact .bl b
  | .int i, _, _, h => by
    cases h
    exact .int i
  | .str x, _, _, h => by
    cases h
    exact .str x
  | .list ds, _, n, h => by
    unfold noL at n
    cases n
  | .tuple ds, _, n, h => by
    cases h with
    | tup hs ha =>
      unfold noL at n
      exact .tup (upT_t e hs) (dpa_upT e ds _ n ha)
  | .dict _, _, _, h => by cases h
theorem dpa_upT (e : UpT H H') : ∀ (ds : List PyData) (vs : List V), noLs ds = true → DpAll K H vs ds → DpAll K H' vs ds
  | [], _, _, h => by
    cases h
    exact .nil
  | d :: ds, _, n, h => by
    cases h with
    | cons h1 h2 =>
      unfold noLs at n
      obtain ⟨n1, n2⟩ := Bool.and_eq_true_iff.mp n
      exact .cons (dp_upT e d _ n1 h1) (dpa_upT e ds _ n2 h2)
end
theorem noLs_app : ∀ {a b : List PyData}, noLs a = true → noLs b = true → noLs (a ++ b) = true
  | [], b, _, h => h
  | d :: a, b, h1, h2 => by
    have h1' : (noL d && noLs a) = true := by
      unfold noLs at h1
      exact h1
    obtain ⟨n1, n2⟩ := Bool.and_eq_true_iff.mp h1'
    show noLs (d :: (a ++ b)) = true
    unfold noLs
    rw [n1, noLs_app n2 h2] <;> rfl
end
/-! ## comprehensions -/
/-- the contexts of a comprehension's block -/
abbrev blkY {ι : Type} (Y : ι → Cx) (scope : Scope) : ι × Shared × Hp × Addr × List (Str × Addr) × List Addr → Cx := fun q => (Y q.1).blk q.2.1 q.2.2.1 scope (compEnvC scope q.2.2.2.2.1 q.2.2.2.1 (Y q.1).env) q.2.2.2.2.2
theorem Fm.blk {ι : Type} {Y : ι → Cx} {P : Program} {w : World} {K : PySem.W.Frag} {mg : Str → Option Value} {base : Heap} {k : Nat} (F : Fm P w K mg base k Y) (scope : Scope) : Fm P w K mg base k (blkY Y scope) :=
  ⟨fun q => F.hP q.1, fun q => F.hw q.1, fun q => F.hK q.1, fun q => F.hmg q.1, fun q => F.hb q.1, fun q => F.calm q.1, fun q => F.rm q.1, fun q => F.nd q.1⟩
/-- what is kept -/
def keepL : List Bool → List PyData → List PyData
  | b :: bs, d :: ds => (if b = true then [d] else []) ++ keepL bs ds
  | _, _ => []
theorem keepL_snoc : ∀ {bs : List Bool} {rs : List PyData} {i : Nat} {b : Bool} {r : PyData}, bs[i]? = some b → rs[i]? = some r → keepL (bs.take (i + 1)) (rs.take (i + 1)) = keepL (bs.take i) (rs.take i) ++ (if b = true then [r] else [])
  | b :: bs, r :: rs, 0, b', r', h1, h2 => by
    have e1 : b = b' := by simpa using h1
    have e2 : r = r' := by simpa using h2
    subst e1 e2
    simp [keepL]
  | b :: bs, r :: rs, i + 1, b', r', h1, h2 => by
    have ih := keepL_snoc (bs := bs) (rs := rs) (i := i) (b := b') (r := r') (by simpa using h1) (by simpa using h2)
    show (if b = true then [r] else []) ++ keepL (bs.take (i + 1)) (rs.take (i + 1)) = ((if b = true then [r] else []) ++ keepL (bs.take i) (rs.take i)) ++ _
    rw [ih, List.append_assoc]
  | [], _, i, _, _, h1, _ => by simp at h1
  | _ :: _, [], i, _, _, _, h2 => by simp at h2
theorem keepL_len : ∀ (bs : List Bool) (rs : List PyData), (keepL bs rs).length ≤ rs.length
  | [], rs => by
    unfold keepL
    simp
  | _ :: _, [] => by
    unfold keepL
    simp
  | b :: bs, r :: rs => by
    have ih := keepL_len bs rs
    unfold keepL
    rw [List.length_append]
    split <;> simp <;> omega
section
variable {ι : Type} {Y : ι → Cx} {P : Program} {w : World} {K : PySem.W.Frag} {mg : Str → Option Value} {base : Heap} {k k' : Nat} {σ : L2.St} {H H' : Hp} {a b c e elt src : Expr} {es : List Expr} {pos p : Pos} {d d1 d2 : PyData} {ds ds1 ds2 rs : List PyData} {bs : List Bool} {x : Str} {b1 b2 : Bool} {D : Ends} {R : V → Hp → Prop} {scope : Scope}
theorem wipe_one {σ : L2.St} {j : Nat} {v : V} : wipe ((wipe σ [j]).set j (some v)) [j] = wipe σ [j] := by
  show ((σ.set j none).set j (some v)).set j none = σ.set j none
  rw [List.set_set, List.set_set]
/-- one turn: what is made so far, and the next -/
theorem lc_turn {H1 H' : Hp} {Dl : Addr} {i : Nat} {te : TE} {tt : TT} {σ2 : L2.St} {b0 : Bool} {r : PyData} (hD : H1 Dl = none) (e1 : Same H1 H') (hl : ∃ acc, H' Dl = some (.lst acc) ∧ DpAll K H' acc (keepL (bs.take i) (rs.take i))) (hb : bs[i]? = some b0) (hr : rs[i]? = some r) (hn : noLs (keepL (bs.take i) (rs.take i)) = true) (hr0 : noL r = true) (hz : i < 16777216)
    (ht : ∀ Q : Bool → Hp → Prop, (∀ H2, Same H' H2 → Q b0 H2) → tt σ2 H' Q) (he : b0 = true → ∀ H2, Same H' H2 → ∀ Q : VK, (∀ v H3, Same H2 H3 → Dp K H3 v r → Q v H3) → te σ2 H2 Q) :
    tt σ2 H' fun b H3 => if b = true then te σ2 H3 fun y H4 => ∃ acc, H4 Dl = some (.lst acc) ∧ acc.length < sizeLine ∧ (Same H1 (upd H4 Dl (.lst (acc ++ [y]))) ∧ ∃ acc', upd H4 Dl (.lst (acc ++ [y])) Dl = some (.lst acc') ∧ DpAll K (upd H4 Dl (.lst (acc ++ [y]))) acc' (keepL (bs.take (i + 1)) (rs.take (i + 1))))
      else Same H1 H3 ∧ ∃ acc', H3 Dl = some (.lst acc') ∧ DpAll K H3 acc' (keepL (bs.take (i + 1)) (rs.take (i + 1))) := by
  obtain ⟨acc, ha, hx⟩ := hl
  refine ht _ fun H2 e2 => ?_
  cases b0 with
  | true =>
    refine iteT (he rfl H2 e2 _ fun y H4 e4 hy => ?_)
    have e5 : Same H' H4 := e2.trans e4
    have ha4 := e5 _ _ ha
    have hlen := dpa_len (vs := []) (ds := []) _ _ hx
    refine ⟨acc, ha4, ?_, fun q o ho => ?_, _, upd_same, ?_⟩
    · rw [hlen, sizeLine_eq]
      have h1 := keepL_len (bs.take i) (rs.take i)
      have h2 : (rs.take i).length ≤ i := by
        rw [List.length_take]
        omega
      omega
    · rw [upd_ne (ne_of_none ho hD)]
      exact e5 q o (e1 q o ho)
    · rw [keepL_snoc hb hr]
      exact dpa_app (dpa_upT (upT_lst ha4) _ _ hn (dpa_up (up_of e5) _ _ hx)) (.cons (dp_upT (upT_lst ha4) _ _ hr0 hy) .nil)
  | false =>
    refine iteF ⟨e1.trans e2, acc, e2 _ _ ha, ?_⟩
    rw [keepL_snoc hb hr, if_neg Bool.false_ne_true, List.append_nil]
    exact dpa_up (up_of e2) _ _ hx
/-- the readings of a block's parts, the strongest -/
def teB {ι : Type} (Y : ι → Cx) (e : Expr) : TE := fun σ H Q => ∃ t : TE, (∀ i, PE (Y i) e t) ∧ t σ H Q
theorem pe_teB {ι : Type} (Y : ι → Cx) (e : Expr) (i : ι) : PE (Y i) e (teB Y e) := ⟨fun pins s σ H Q I h => by
  obtain ⟨t, ht, h⟩ := h
  exact (ht i).run pins s σ H Q I h⟩
def ttB {ι : Type} (Y : ι → Cx) (e : Expr) : TT := fun σ H Q => ∃ t : TT, (∀ i, PT (Y i) e t) ∧ t σ H Q
theorem pt_ttB {ι : Type} (Y : ι → Cx) (e : Expr) (i : ι) : PT (Y i) e (ttB Y e) := ⟨fun pins s σ H Q I h => by
  obtain ⟨t, ht, h⟩ := h
  exact (ht i).run pins s σ H Q I h⟩
theorem noLs_keep : ∀ (bs : List Bool) (rs : List PyData), noLs rs = true → noLs (keepL bs rs) = true
  | [], rs, _ => by
    unfold keepL
    rfl
  | _ :: _, [], _ => by
    unfold keepL
    rfl
  | b :: bs, r :: rs, h => by
    have h' : (noL r && noLs rs) = true := by
      unfold noLs at h
      exact h
    obtain ⟨n1, n2⟩ := Bool.and_eq_true_iff.mp h'
    unfold keepL
    refine noLs_app ?_ (noLs_keep bs rs n2)
    split
    · unfold noLs
      rw [n1] <;> rfl
    · rfl
theorem noLs_take : ∀ (i : Nat) (rs : List PyData), noLs rs = true → noLs (rs.take i) = true
  | 0, rs, _ => by simp [noLs]
  | i + 1, [], _ => rfl
  | i + 1, r :: rs, h => by
    have h' : (noL r && noLs rs) = true := by
      unfold noLs at h
      exact h
    obtain ⟨n1, n2⟩ := Bool.and_eq_true_iff.mp h'
    show noLs (r :: rs.take i) = true
    unfold noLs
    rw [n1, noLs_take i rs n2] <;> rfl
theorem noLs_get : ∀ {rs : List PyData} {i : Nat} {r : PyData}, noLs rs = true → rs[i]? = some r → noL r = true
  | r :: rs, i, r', h, e => by
    have h' : (noL r && noLs rs) = true := by
      unfold noLs at h
      exact h
    obtain ⟨n1, n2⟩ := Bool.and_eq_true_iff.mp h'
    cases i with
    | zero =>
      have q : r = r' := by simpa using e
      rw [← q]
      exact n1
    | succ i => exact noLs_get n2 (by simpa using e)
  | [], i, r', _, e => by simp at e
/-- [elt for x in a tuple (or a list) if c] -/
theorem de_lcT {pos' : Pos} (j : Nat) (ifs : List Expr) (F : Fm P w K mg base k Y) (hs : DE Y K σ H src (.tuple ds)) (hlen : rs.length = ds.length) (hbl : bs.length = ds.length) (hno : noLs rs = true) (hz : ds.length ≤ 16777216) (ok : ∀ i, BlkOk (Y i).N (Y i).env.scope scope [(x, j)])
    (ht : ∀ (i : Nat) (d : PyData) (v : V) (H1 : Hp) (b0 : Bool), Up H H1 → ds[i]? = some d → bs[i]? = some b0 → Dp K H1 v d → (ifs = [] ∧ b0 = true) ∨ ∃ c, ifs = [c] ∧ DT (blkY Y scope) ((wipe σ [j]).set j (some v)) H1 c b0)
    (he : ∀ (i : Nat) (d r : PyData) (v : V) (H1 : Hp), Up H H1 → ds[i]? = some d → rs[i]? = some r → bs[i]? = some true → Dp K H1 v d → DE (blkY Y scope) K ((wipe σ [j]).set j (some v)) H1 elt r)
    (hif : ifs = [] ∨ ∃ c, ifs = [c])
    (hi : ∀ q, (blkY Y scope q).N[j]? = some x := by intro _; rfl) (hx : ∀ q, Loc (blkY Y scope q).env.scope x := by intro _; first | exact Or.inl rfl | exact Or.inr rfl) (hf : ∀ q, (blkY Y scope q).fn x = true ∨ (blkY Y scope q).env.scope.names.lookup x = some .local := by intro _; first | exact .inl rfl | exact .inr rfl)
    (hfs : ∀ i x, foldedSetIterable src (Y i).env x = pure x := by intro _ _; rfl) : DE Y K σ H (.ListComp elt [⟨.Name x pos', src, ifs, 0⟩] scope pos) (.list (keepL bs rs)) := by
  obtain ⟨t1, h1, q1⟩ := hs
  have tt0 : ∃ tt : TT, (∀ q, PTs (blkY Y scope q) ifs tt) ∧ ∀ (i : Nat) (d : PyData) (v : V) (H1 : Hp) (b0 : Bool), Up H H1 → ds[i]? = some d → bs[i]? = some b0 → Dp K H1 v d → ∀ Q : Bool → Hp → Prop, (∀ H2, Same H1 H2 → Q b0 H2) → tt ((wipe σ [j]).set j (some v)) H1 Q := by
    rcases hif with rfl | ⟨c, rfl⟩
    · refine ⟨tYes, fun _ => pts_nil, fun i d v H1 b0 u e1 e2 hd Q q => ?_⟩
      rcases ht i d v H1 b0 u e1 e2 hd with ⟨_, rfl⟩ | ⟨c, z, _⟩
      · exact q H1 (Same.refl _)
      · cases z
    · refine ⟨ttB (blkY Y scope) c, fun q => pts_one (pt_ttB _ c q), fun i d v H1 b0 u e1 e2 hd Q q => ?_⟩
      rcases ht i d v H1 b0 u e1 e2 hd with ⟨z, _⟩ | ⟨c', z, t, h2, h3⟩
      · cases z
      · cases z
        exact ⟨t, h2, h3 H1 (Up.refl _) Q q⟩
  obtain ⟨tt, htt, ht⟩ := tt0
  refine ⟨tLc (iTup K t1) (gName j) tt (teB (blkY Y scope) elt) [j], fun i => ?_, fun H1 e1 Q q => q1 H1 e1 _ fun v H2 e2 hv => ?_⟩
  · have z := pe_lc (own := [(x, j)]) (g := gName j) (tt := tt) (te := teB (blkY Y scope) elt) (pos := pos) (tg := .Name x pos') (F.calm i) (F.nd i) (pi_tup (tg := .Name x pos') (h1 i)) (ok i)
      (fun s H C cl fp => pg_name ((F.blk scope).nd (i, s, H, C, cl, fp)) (hi (i, s, H, C, cl, fp)) (hx (i, s, H, C, cl, fp)) (hf (i, s, H, C, cl, fp))) (fun s H C cl fp => htt (i, s, H, C, cl, fp)) (fun s H C cl fp => pe_teB (blkY Y scope) elt (i, s, H, C, cl, fp)) (hfs i)
    rw [F.hK i] at z
    exact z
  · cases hv with
    | tup hq hx0 =>
      rename_i A0 xs0
      have hl0 := dpa_len (vs := []) (ds := []) _ _ hx0
      refine ⟨A0, rfl, ⟨xs0, hq⟩, fun Dl hD => lc_tup (xs := xs0) (fun i H' => Same H2 H' ∧ ∃ acc, H' Dl = some (.lst acc) ∧ DpAll K H' acc (keepL (bs.take i) (rs.take i))) ⟨same_new hD, [], upd_same, ?_⟩ (fun i H' _ p => up_t (up_of p.1) hq) (fun i y H' hy p => ⟨wipe_one, ?_⟩) fun H' p => ?_⟩
      · simp only [List.take_zero]
        unfold keepL
        exact .nil
      · have hi' : i < ds.length := by
          rw [← hl0]
          exact (List.getElem?_eq_some_iff.mp hy).1
        have ed : ds[i]? = some ds[i] := List.getElem?_eq_getElem hi'
        have er : rs[i]? = some (rs[i]'(by omega)) := List.getElem?_eq_getElem _
        have eb : bs[i]? = some (bs[i]'(by omega)) := List.getElem?_eq_getElem _
        obtain ⟨v', hv1, hv2⟩ := dpa_get _ _ _ _ hx0 ed
        rw [hy] at hv1
        cases hv1
        have uH : Up H H' := (e1.trans (up_of e2)).trans (up_of p.1)
        have hyd : Dp K H' y ds[i] := dp_up (up_of p.1) _ _ hv2
        refine lc_turn hD p.1 p.2 eb er (noLs_keep _ _ (noLs_take _ _ hno)) (noLs_get hno er) (by omega) (ht i _ y H' _ uH ed eb hyd) fun hb H3 e3 Q' q' => ?_
        rw [hb] at eb
        obtain ⟨t, h2, h3⟩ := he i _ _ y H3 (uH.trans (up_of e3)) ed er eb (dp_up (up_of e3) _ _ hyd)
        exact ⟨t, h2, h3 H3 (Up.refl _) Q' q'⟩
      · obtain ⟨e3, acc, ha, hx1⟩ := p
        rw [hl0, ← hlen, List.take_length, hlen, ← hbl, List.take_length] at hx1
        refine q _ H' (e2.trans ?_) (.lst (SqL.of ha) hx1)
        exact e3
end
end PK
namespace PK
open L2 PySem PySem.Spec PyProof.Rows
section
variable {ι : Type} {Y : ι → Cx} {P : Program} {w : World} {K : PySem.W.Frag} {mg : Str → Option Value} {base : Heap} {k k' : Nat} {σ : L2.St} {H H' : Hp} {a b c e elt src tg : Expr} {es : List Expr} {pos p tp : Pos} {d d1 d2 : PyData} {ds ds1 ds2 rs : List PyData} {bs : List Bool} {x : Str} {b1 b2 : Bool} {D : Ends} {R : V → Hp → Prop} {scope : Scope} {rest body : List Stmt} {j : Nat} {js : List Nat}
/-! ## what is walked -/
/-- a walk of n turns whose i-th item stands for the datum It i, wherever what stood at H stands -/
def WOk (K : PySem.W.Frag) (J : L2.It) (n : Nat) (im : Nat → PyData) (H : Hp) : Prop :=
  ∃ (G : Hp → Prop) (Yw : Nat → Hp → V → Hp → Prop), Walk J n G Yw ∧ (∀ H', Up H H' → G H') ∧ ∀ i H' v H'', i < n → Up H H' → Yw i H' v H'' → Same H' H'' ∧ Dp K H'' v (im i)
/-- src is walked by tg: n items, the i-th stands for It i -/
def SE {ι : Type} (Y : ι → Cx) (K : PySem.W.Frag) (σ : L2.St) (H : Hp) (tg src : Expr) (n : Nat) (im : Nat → PyData) : Prop :=
  ∃ wi : TI, (∀ i, PI (Y i) tg src wi) ∧ ∀ H1, Up H H1 → ∀ R : L2.It → Hp → Prop, (∀ J H2, Same H1 H2 → WOk K J n im H2 → R J H2) → wi σ H1 R
theorem wok_seq {J : L2.It} {xs : List V} {G : Hp → Prop} (wk : Walk J xs.length G (YAt xs)) (hG : ∀ H', Up H H' → G H') (hx : DpAll K H xs ds) : WOk K J ds.length (fun i => ds.getD i .none) H := by
  have hl := dpa_len (vs := []) (ds := []) _ _ hx
  rw [← hl]
  refine ⟨G, YAt xs, wk, hG, fun i H' v H'' hi u y => ?_⟩
  obtain ⟨rfl, hv⟩ := y
  have hi' : i < ds.length := by omega
  have ed : ds[i]? = some ds[i] := List.getElem?_eq_getElem hi'
  obtain ⟨v', hv1, hv2⟩ := dpa_get _ _ _ _ hx ed
  rw [hv] at hv1
  cases hv1
  refine ⟨Same.refl _, ?_⟩
  show Dp K H'' v (ds.getD i .none)
  rw [List.getD_eq_getElem?_getD, ed]
  exact dp_up u _ _ hv2
theorem se_tup (F : Fm P w K mg base k Y) (h : DE Y K σ H src (.tuple ds)) : SE Y K σ H tg src ds.length fun i => ds.getD i .none := by
  obtain ⟨t, ht, h⟩ := h
  refine ⟨iTup K t, fun i => by
    have z := pi_tup (tg := tg) (ht i)
    rw [F.hK i] at z
    exact z, fun H1 e1 R q => h H1 e1 _ fun v H2 e2 hv => ?_⟩
  cases hv with
  | tup hq hx => exact ⟨_, rfl, ⟨_, hq⟩, q _ H2 e2 (wok_seq walk_tup (fun H' u => up_t u hq) hx)⟩
theorem se_lst (F : Fm P w K mg base k Y) (h : DE Y K σ H src (.list ds)) : SE Y K σ H tg src ds.length fun i => ds.getD i .none := by
  obtain ⟨t, ht, h⟩ := h
  refine ⟨iList K t, fun i => by
    have z := pi_list (tg := tg) (ht i)
    rw [F.hK i] at z
    exact z, fun H1 e1 R q => h H1 e1 _ fun v H2 e2 hv => ?_⟩
  cases hv with
  | lst hq hx => exact ⟨_, rfl, ⟨_, hq⟩, q _ H2 e2 (wok_seq walk_list (fun H' u => up_l u hq) hx)⟩
theorem se_range {n : Int} (F : Fm P w K mg base k Y) (g : mg "range" = none) (h : DE Y K σ H a (.int n)) (h0 : 0 ≤ n) (h1 : n < 2 ^ 62) (hg : ∀ i, Gl (Y i) "range" := by intro _; rfl) (he : ∀ i, starEach [a] (Y i).env = [(false, eval a (Y i).env)] := by intro _; rfl) :
    SE Y K σ H tg (.Call (.Name "range" p) [a] [] pos) n.toNat fun i => .int (i : Nat) := by
  obtain ⟨t, ht, h⟩ := xa_d h xa_nil he
  refine ⟨iRng1 t, fun i => pi_range1 (hg i) (by rw [F.hmg i]; exact g) (ht i) (he i), fun H1 e1 R q => h H1 e1 _ fun vs H2 e2 hv => ?_⟩
  obtain ⟨v, rfl, hv1⟩ := vxs1 hv
  cases hv1
  refine ⟨n, rfl, by omega, h1, q _ H2 e2 ⟨fun _ => True, _, walk_range, fun _ _ => trivial, fun i H' v H'' hi u y => ?_⟩⟩
  obtain ⟨rfl, rfl⟩ := y
  refine ⟨Same.refl _, ?_⟩
  have e0 : (0 : Int) + ((i : Nat) : Int) = ((i : Nat) : Int) := Int.zero_add _
  show Dp K H'' (V.int ((0 : Int) + ((i : Nat) : Int))) (.int ((i : Nat) : Int))
  rw [e0]
  exact .int _
/-- enumerate(list) -/
theorem se_enumL {kk : Nat} {elts : List Expr} {tpos : Pos} (F : Fm P w K mg base k Y) (g : mg "enumerate" = none) (h : DE Y K σ H a (.list ds)) (hg : ∀ i, Gl (Y i) "enumerate" := by intro _; rfl) (he : ∀ i, starEach [a] (Y i).env = [(false, eval a (Y i).env)] := by intro _; rfl) :
    SE Y K σ H (.Tuple elts kk tpos) (.Call (.Name "enumerate" p) [a] [] pos) ds.length fun i => .tuple [.int (i : Nat), ds.getD i .none] := by
  obtain ⟨t, ht, h⟩ := xa_d h xa_nil he
  refine ⟨iEnum K t, fun i => by
    have z := pi_enum (p := p) (pos := pos) (elts := elts) (kk := kk) (tpos := tpos) (hg i) (by rw [F.hmg i]; exact g) (ht i) (he i)
    rw [F.hK i] at z
    exact z, fun H1 e1 R q => h H1 e1 _ fun vs H2 e2 hv => ?_⟩
  obtain ⟨v, rfl, hv1⟩ := vxs1 hv
  cases hv1 with
  | lst hq hx =>
    rename_i A xs
    have hl := dpa_len (vs := []) (ds := []) _ _ hx
    refine ⟨A, xs, rfl, hq, q _ H2 e2 ?_⟩
    rw [← hl]
    refine ⟨_, _, walk_enum (xs := xs), fun H' u => up_l u hq, fun i H' v H'' hi u y => ?_⟩
    obtain ⟨T0, x0, y0, rfl, hT, rfl, hx0, hy0⟩ := y
    cases hx0
    have hi' : i < ds.length := by omega
    have ed : ds[i]? = some ds[i] := List.getElem?_eq_getElem hi'
    obtain ⟨v', hv1, hv2⟩ := dpa_get _ _ _ _ hx ed
    rw [show xs[i]? = some y0 from hy0] at hv1
    cases hv1
    refine ⟨same_new hT, .tup (SqT.of upd_same) (.cons (.int _) (.cons ?_ .nil))⟩
    rw [List.getD_eq_getElem?_getD, ed]
    exact dp_up (u.trans (up_of (same_new hT))) _ _ hv2
/-! ## what is bound -/
/-- tg binds the names at js to the data f d -/
def TB {ι : Type} (Y : ι → Cx) (K : PySem.W.Frag) (tg : Expr) (d : PyData) (js : List Nat) (fs : List PyData) : Prop :=
  ∃ g : TG, (∀ i, PG (Y i) tg g) ∧ ∀ v σ H Q, Dp K H v d → (∀ vs, DpAll K H vs fs → vs.length = js.length → Q (sets js vs σ) H) → g v σ H Q
/-- the same targets for every datum -/
def TBs {ι : Type} (Y : ι → Cx) (K : PySem.W.Frag) (tg : Expr) (js : List Nat) (ok : PyData → List PyData → Prop) : Prop :=
  ∃ g : TG, (∀ i, PG (Y i) tg g) ∧ ∀ d fs, ok d fs → ∀ v σ H Q, Dp K H v d → (∀ vs, DpAll K H vs fs → vs.length = js.length → Q (sets js vs σ) H) → g v σ H Q
theorem tb_name (j : Nat) (F : Fm P w K mg base k Y) (hi : ∀ l, (Y l).N[j]? = some x := by intro _; rfl) (hx : ∀ l, Loc (Y l).env.scope x := by intro _; first | exact Or.inl rfl | exact Or.inr rfl)
    (hf : ∀ l, (Y l).fn x = true ∨ (Y l).env.scope.names.lookup x = some .local := by intro _; first | exact .inl rfl | exact .inr rfl) : TBs Y K (.Name x pos) [j] fun d fs => fs = [d] := by
  refine ⟨gName j, fun l => pg_name (F.nd l) (hi l) (hx l) (hf l), fun d fs e v σ H Q hv q => ?_⟩
  subst e
  exact q [v] (.cons hv .nil) rfl
theorem tb_tup {n : Nat} (F : Fm P w K mg base k Y) (g : GN Y es js) (hn : ∀ l, (assignEach es (Y l).env).length = js.length := by intro _; rfl) (hst : ∀ l, (assignEach es (Y l).env).findIdx? (·.1) = none := by intro _; rfl) :
    TBs Y K (.Tuple es n tp) js fun d fs => d = .tuple fs ∧ fs.length = js.length := by
  obtain ⟨g, hg, q⟩ := g
  refine ⟨gTup K js.length g, fun l => by
    have z := pg_tup (k := n) (pos := tp) (F.calm l) (hg l) (hn l) (hst l)
    rw [F.hK l] at z
    exact z, fun d fs e v σ H Q hv hq => ?_⟩
  obtain ⟨rfl, hl⟩ := e
  cases hv with
  | tup hs hx =>
    have hlen := dpa_len (vs := []) (ds := []) _ _ hx
    exact ⟨_, _, rfl, hs, by rw [hlen]; exact hl, q _ σ H _ (by rw [hlen]; exact hl) (hq _ hx (by rw [hlen]; exact hl))⟩
theorem wipe_get : ∀ (js : List Nat) (σ : L2.St) (i : Nat), (wipe σ js)[i]? = if i ∈ js ∧ i < σ.length then some none else σ[i]?
  | [], σ, i => by simp [wipe]
  | j :: js, σ, i => by
    show ((wipe σ js).set j none)[i]? = _
    rw [List.getElem?_set]
    have ih := wipe_get js σ i
    have hl := wipe_length σ js
    by_cases hij : j = i
    · subst hij
      rw [if_pos rfl, hl]
      by_cases hs : j < σ.length
      · simp [hs]
      · simp [hs]
    · rw [if_neg hij, ih]
      have e : (i ∈ j :: js) ↔ i ∈ js := by simp [Ne.symm hij]
      simp only [e]
theorem sets_len : ∀ (js : List Nat) (vs : List V) (σ : L2.St), (sets js vs σ).length = σ.length
  | [], _, _ => rfl
  | _ :: _, [], _ => rfl
  | j :: js, v :: vs, σ => by
    show (sets js vs (σ.set j (some v))).length = _
    rw [sets_len js vs, List.length_set]
theorem sets_get : ∀ (js : List Nat) (vs : List V) (σ : L2.St) (i : Nat), i ∉ js → (sets js vs σ)[i]? = σ[i]?
  | [], _, _, _, _ => rfl
  | _ :: _, [], _, _, _ => rfl
  | j :: js, v :: vs, σ, i, h => by
    have h1 : i ≠ j := fun z => h (by rw [z]; exact List.mem_cons_self ..)
    show (sets js vs (σ.set j (some v)))[i]? = _
    rw [sets_get js vs _ i (fun z => h (List.mem_cons_of_mem _ z)), List.getElem?_set, if_neg (Ne.symm h1)]
theorem wipe_sets (js : List Nat) (vs : List V) (σ : L2.St) : wipe (sets js vs (wipe σ js)) js = wipe σ js := by
  apply List.ext_getElem?
  intro i
  rw [wipe_get, wipe_get, sets_len, wipe_length]
  by_cases h : i ∈ js ∧ i < σ.length
  · rw [if_pos h, if_pos h]
  · rw [if_neg h, if_neg h]
    by_cases hj : i ∈ js
    · have hs : ¬ i < σ.length := fun z => h ⟨hj, z⟩
      rw [List.getElem?_eq_none (by rw [sets_len, wipe_length]; omega), List.getElem?_eq_none (by omega)]
    · rw [sets_get _ _ _ _ hj, wipe_get, if_neg (fun z => hj z.1)]
/-! ## comprehensions over any of these -/
theorem de_lc {own : List (Str × Nat)} {n : Nat} {im : Nat → PyData} {ok : PyData → List PyData → Prop} {fs : Nat → List PyData} (ifs : List Expr) (F : Fm P w K mg base k Y) (hs : SE Y K σ H tg src n im) (htg : TBs (blkY Y scope) K tg js ok) (hown : own.map (·.2) = js) (hok : ∀ i, i < n → ok (im i) (fs i))
    (hlen : rs.length = n) (hbl : bs.length = n) (hno : noLs rs = true) (hz : n ≤ 16777216) (hblk : ∀ i, BlkOk (Y i).N (Y i).env.scope scope own) (hif : ifs = [] ∨ ∃ c, ifs = [c])
    (ht : ∀ (i : Nat) (vs : List V) (H1 : Hp) (b0 : Bool), Up H H1 → i < n → bs[i]? = some b0 → vs.length = js.length → DpAll K H1 vs (fs i) → (ifs = [] ∧ b0 = true) ∨ ∃ c, ifs = [c] ∧ DT (blkY Y scope) (sets js vs (wipe σ js)) H1 c b0)
    (he : ∀ (i : Nat) (r : PyData) (vs : List V) (H1 : Hp), Up H H1 → i < n → rs[i]? = some r → bs[i]? = some true → vs.length = js.length → DpAll K H1 vs (fs i) → DE (blkY Y scope) K (sets js vs (wipe σ js)) H1 elt r)
    (hfs : ∀ i x, foldedSetIterable src (Y i).env x = pure x := by intro _ _; rfl) : DE Y K σ H (.ListComp elt [⟨tg, src, ifs, 0⟩] scope pos) (.list (keepL bs rs)) := by
  obtain ⟨wi, hwi, q1⟩ := hs
  obtain ⟨g, hg, qg⟩ := htg
  have tt0 : ∃ tt : TT, (∀ q, PTs (blkY Y scope q) ifs tt) ∧ ∀ (i : Nat) (vs : List V) (H1 : Hp) (b0 : Bool), Up H H1 → i < n → bs[i]? = some b0 → vs.length = js.length → DpAll K H1 vs (fs i) → ∀ Q : Bool → Hp → Prop, (∀ H2, Same H1 H2 → Q b0 H2) → tt (sets js vs (wipe σ js)) H1 Q := by
    rcases hif with rfl | ⟨c, rfl⟩
    · refine ⟨tYes, fun _ => pts_nil, fun i vs H1 b0 u hi e2 hl hd Q q => ?_⟩
      rcases ht i vs H1 b0 u hi e2 hl hd with ⟨_, rfl⟩ | ⟨c, z, _⟩
      · exact q H1 (Same.refl _)
      · cases z
    · refine ⟨ttB (blkY Y scope) c, fun q => pts_one (pt_ttB _ c q), fun i vs H1 b0 u hi e2 hl hd Q q => ?_⟩
      rcases ht i vs H1 b0 u hi e2 hl hd with ⟨z, _⟩ | ⟨c', z, t, h2, h3⟩
      · cases z
      · cases z
        exact ⟨t, h2, h3 H1 (Up.refl _) Q q⟩
  obtain ⟨tt, htt, ht⟩ := tt0
  subst hown
  refine ⟨tLc wi g tt (teB (blkY Y scope) elt) (own.map (·.2)), fun i => pe_lc (F.calm i) (F.nd i) (hwi i) (hblk i) (fun s H C cl fp => hg (i, s, H, C, cl, fp)) (fun s H C cl fp => htt (i, s, H, C, cl, fp)) (fun s H C cl fp => pe_teB (blkY Y scope) elt (i, s, H, C, cl, fp)) (hfs i), fun H1 e1 Q q => ?_⟩
  refine q1 H1 e1 _ fun J H2 e2 wk Dl hD => ?_
  obtain ⟨G, Yw, wk, hG, hY⟩ := wk
  refine lc_it wk (fun i H' => Same H2 H' ∧ ∃ acc, H' Dl = some (.lst acc) ∧ DpAll K H' acc (keepL (bs.take i) (rs.take i))) ⟨same_new hD, [], upd_same, ?_⟩ (fun i H' _ p => hG H' (up_of p.1)) (fun i y H' H'' hi p hy => ?_) fun H' p => ?_
  · simp only [List.take_zero]
    unfold keepL
    exact .nil
  · obtain ⟨e3, hyd⟩ := hY i H' y H'' hi (up_of p.1) hy
    refine qg _ _ (hok i hi) y _ H'' _ hyd fun vs hvs hvl => ⟨wipe_sets _ _ _, ?_⟩
    have er : rs[i]? = some (rs[i]'(by omega)) := List.getElem?_eq_getElem _
    have eb : bs[i]? = some (bs[i]'(by omega)) := List.getElem?_eq_getElem _
    have uH : Up H H'' := ((e1.trans (up_of e2)).trans (up_of p.1)).trans (up_of e3)
    obtain ⟨p1, acc, pa, px⟩ := p
    refine lc_turn hD (p1.trans e3) ⟨acc, e3 _ _ pa, dpa_up (up_of e3) _ _ px⟩ eb er (noLs_keep _ _ (noLs_take _ _ hno)) (noLs_get hno er) (by omega) (ht i vs H'' _ uH hi eb hvl hvs) fun hb H3 e4 Q' q' => ?_
    rw [hb] at eb
    obtain ⟨t, h2, h3⟩ := he i _ vs H3 (uH.trans (up_of e4)) hi er eb hvl (dpa_up (up_of e4) _ _ hvs)
    exact ⟨t, h2, h3 H3 (Up.refl _) Q' q'⟩
  · obtain ⟨e3, acc, ha, hx1⟩ := p
    rw [← hlen, List.take_length, hlen, ← hbl, List.take_length] at hx1
    refine q _ H' (e2.trans ?_) (.lst (SqL.of ha) hx1)
    exact e3
/-! ## for loops -/
theorem ds_for {n : Nat} {im : Nat → PyData} {ok : PyData → List PyData → Prop} {fs : Nat → List PyData} (F : Fm P w K mg base k Y) (hs : SE Y K σ H tg src n im) (htg : TBs Y K tg js ok) (hok : ∀ i, i < n → ok (im i) (fs i))
    (hl : ∀ H1, Same H H1 → ∃ Pv : Nat → L2.St → Hp → Prop, Pv 0 σ H1 ∧ (∀ i σ' H', Pv i σ' H' → Up H1 H') ∧
      (∀ i σ' H' H'' vs, i < n → Pv i σ' H' → Same H' H'' → vs.length = js.length → DpAll K H'' vs (fs i) → DSs Y { D with nx := Pv (i + 1), ct := Pv (i + 1), bk := fun σ' H' => DSs Y D σ' H' rest } (sets js vs σ') H'' body) ∧ ∀ σ' H', Pv n σ' H' → DSs Y D σ' H' rest)
    (hp : ∀ i, PassesOwn (model (Y i).prog (Y i).w) (Y i).A (Y i).env (Y i).xe := by intro _; exact PassesOwn.never) (hfs : ∀ i x, foldedSetIterable src (Y i).env x = pure x := by intro _ _; rfl) : DSs Y D σ H (.For tg src body [] pos :: rest) := by
  obtain ⟨wi, hwi, q1⟩ := hs
  obtain ⟨g, hg, qg⟩ := htg
  refine ds_cons ⟨tFor wi g fun D σ H => DSs Y D σ H body, fun i => ps_for (hp i) (F.calm i) (hwi i) (hg i) (pss_rest i) (hfs i), q1 H (Up.refl _) _ fun J H2 e2 wk => ?_⟩
  obtain ⟨G, Yw, wk, hG, hY⟩ := wk
  obtain ⟨Pv, h0, hU, hb, hd⟩ := hl H2 e2
  refine for_it wk (g := g) (tb := fun D σ H => DSs Y D σ H body) (D := cont Y D rest) Pv h0 (fun i σ' H' _ p => hG H' (hU i σ' H' p)) (fun i y σ' H' H'' hi p hy => ?_) fun σ' H' p => hd σ' H' p
  obtain ⟨e3, hyd⟩ := hY i H' y H'' hi (hU i σ' H' p) hy
  exact qg _ _ (hok i hi) y _ H'' _ hyd fun vs hvs hvl => hb i σ' H' H'' vs hi p e3 hvl hvs
end
end PK
namespace PK
open L2 PySem PySem.Spec PyProof.Rows
/-! ## enumerate(tuple) -/
theorem meets_enum_tup (l : Addr) (items : Array Value) (H0 : Heap → Prop) (B : Begins (.ref l) { cls := .type "tuple_iterator", data := .fields #[.ref l, .int 0 0] } H0) :
    Meets (Builtin.«enumerate.__new__» ⟨[.type "enumerate", .ref l], []⟩) (fun _ R s => H0 s.heap ∧
      R (.ok (.ret (.ref (s.heap.push { cls := .type "tuple_iterator", data := .fields #[.ref l, .int 0 0] }).objs.size)))
        { s with heap := (s.heap.push { cls := .type "tuple_iterator", data := .fields #[.ref l, .int 0 0] }).push { cls := .type "enumerate", data := .fields #[.none, .bool false, .ref s.heap.objs.size, rawInt 0, .none, .none] } }) :=
  .of_wp fun pg ww Aa R ss hh => by
    obtain ⟨hq0, g0, d0, tk0, os0⟩ := ss
    obtain ⟨h1, hh⟩ := hh
    have ksub := sub_enumerate
    have qi : ∀ {A' : Around} {E : Value → Shared → Prop} {Q : Value → Shared → Prop}, Q (.ref hq0.objs.size) ⟨hq0.push { cls := .type "tuple_iterator", data := .fields #[.ref l, .int 0 0] }, g0, d0, tk0, os0⟩ → wpAny (model pg ww) A' (pyIter (.ref l)) Q E ⟨hq0, g0, d0, tk0, os0⟩ :=
      fun q => B.iter pg ww _ _ ⟨hq0, g0, d0, tk0, os0⟩ _ h1 q
    wp_walk using qi
    refine wpAny_stack_any fun sk => wpAny_pure ?_
    split
    · rename_i c _ _ _ _ _
      cases (c == Value.type "enumerate")
      · wp_walk using qi
        exact ⟨_, rfl, hh⟩
      · wp_walk using qi
        exact ⟨_, rfl, hh⟩
    · wp_walk using qi
      exact ⟨_, rfl, hh⟩
theorem call_enum_tup {prog : Program} {w : World} {A : Around} {E : Value → Shared → Prop} {s : Shared} {l : Addr} {items : Array Value} {Q : Value → Shared → Prop} (hL : s.heap.IsTuple l items)
    (h : ∀ g', IsEnum g' (s.heap.objs.size + 1) s.heap.objs.size 0 .none → g'.IsTupleIter s.heap.objs.size l 0 → g'.objs.size = s.heap.objs.size + 2 →
      (∀ bb oo, s.heap.get? bb = some oo → g'.get? bb = some oo) → Q (.ref (s.heap.objs.size + 1)) { s with heap := g' }) :
    wpAny (model prog w) A (call (.type "enumerate") [.ref l]) Q E s := by
  refine callType_new F.called_enumerate (by decide) (F.typeCall_enumerate_1 _) (F.newCall_enumerate_1 _) (fun ob0 => F.args_object_init_2 ob0 _) F.entry_enumerate_new
    (meets_enum_tup l items _ (begins_tuple l items)) ⟨hL, ?_⟩
  have kz : (s.heap.push { cls := .type "tuple_iterator", data := .fields #[.ref l, .int 0 0] }).objs.size = s.heap.objs.size + 1 := Heap.size_push ..
  show _ ∧ _
  rw [kz]
  have ke : IsEnum ((s.heap.push { cls := .type "tuple_iterator", data := .fields #[.ref l, .int 0 0] }).push { cls := .type "enumerate", data := .fields #[.none, .bool false, .ref s.heap.objs.size, rawInt 0, .none, .none] }) (s.heap.objs.size + 1) s.heap.objs.size 0 .none := by
    have := Heap.get?_push_size (s.heap.push { cls := .type "tuple_iterator", data := .fields #[.ref l, .int 0 0] }) (o := { cls := .type "enumerate", data := .fields #[.none, .bool false, .ref s.heap.objs.size, rawInt 0, .none, .none] }) rfl
    rw [kz] at this
    exact this
  refine ⟨⟨_, ke, rfl⟩, h _ ke ⟨_, Heap.get?_push_of_some _ (Heap.get?_push_size _ rfl), rfl, rfl⟩ (by rw [Heap.size_push, kz]) fun bb oo xx => Heap.get?_push_of_some _ (Heap.get?_push_of_some _ xx)⟩
/-- the tuple at a, each item in a new pair -/
def IteT (K : PySem.W.Frag) (a : Addr) : L2.It :=
  ⟨fun i H => ∃ (xs : List V) (x : V), SqT K H a xs ∧ xs[i]? = some x, fun i H v H' => ∃ T x, v = .ref T ∧ H T = none ∧ H' = upd H T (.tup [.int (i : Nat), x]) ∧ ∀ xs, SqT K H a xs → xs[i]? = some x, fun i H => ∃ xs : List V, SqT K H a xs ∧ xs.length ≤ i⟩
theorem turn_enumT {P : Program} {w : World} {K : PySem.W.Frag} {elts : List Expr} {kk : Nat} {tpos : Pos} (a e it : Addr) :
    Turn P w K (.Tuple elts kk tpos) (IteT K a) [e, it] e (fun i h => (∃ old, IsEnum h e it ((i : Nat) : Int) old) ∧ h.IsTupleIter it a i ∧ e ≠ it ∧ a ≠ it ∧ a ≠ e) where
  mem := by simp
  obj := fun i h sg bb kb => by
    obtain ⟨⟨was, ke⟩, ⟨o, go, kc, kd⟩, _⟩ := sg
    have eb : bb = e ∨ bb = it := by simpa using kb
    rcases eb with zz | zz
    · rw [zz]
      exact ⟨_, ke, fun v q => nomatch q⟩
    · rw [zz]
      exact ⟨o, go, fun v q => by
        rw [kd] at q
        cases q⟩
  keep := fun i h h' sg k => let ⟨⟨was, ke⟩, hi, kne⟩ := sg; ⟨⟨was, k e (by simp) _ ke⟩, hi.at fun o q => k it (by simp) o q, kne⟩
  item := by
    intro X hP hw hK kc i pns s σ H E I kf sg kg
    subst hP hw hK
    obtain ⟨⟨was, ke⟩, kit, kne, ka1, ka2⟩ := sg
    obtain ⟨xs, x, kq, kx⟩ := kg
    obtain ⟨ms, rm, pp, kz⟩ := I.tuple kq
    obtain ⟨u, ku, kr⟩ := rm.get kx
    have kel : e < s.heap.objs.size := Heap.lt_size ke
    have kil : it < s.heap.objs.size := by
      obtain ⟨_, q, _⟩ := kit
      exact Heap.lt_size q
    have kia : i < ms.toArray.size := by
      have := (List.getElem?_eq_some_iff.mp ku).1
      simpa using this
    have D := Draws.tuple (prog := X.prog) (w := X.w) (A := X.A.in1) (I.ok.hd kc) it a ka1 ms.toArray
    refine wpAny_pyNext_enum_itemD D ke ⟨kit, pp⟩ kia kne (by simp [kne, Ne.symm ka2]) fun x' h' tk kx' go kit' kT ksz kk => ?_
    have ex' : x' = u := by
      have h3 : ms[i]? = some x' := by simpa using kx'
      rw [ku] at h3
      cases h3
      rfl
    subst ex'
    refine ⟨_, rfl, wpAny_letOwnedTupleGo_enum (s := { s with heap := h', toks := tk + 1 }) go fun h'' ke' sbt => ?_⟩
    have kT2 : h''.get? s.heap.objs.size = some { cls := .type "tuple", data := .seq #[.int i tk, x'] } := (sbt.2 _ (Nat.ne_of_gt kel)).trans kT
    have nw : ObjOk X.prog X.w (upd H s.heap.objs.size (.tup [.int (i : Nat), x])) h'' s.heap.objs.size (.tup [.int (i : Nat), x]) :=
      ⟨by show 2 ≤ sizeLine; decide, [.int i tk, x'], .cons ⟨_, rfl⟩ (.cons kr .nil), ⟨_, kT2, rfl, _, rfl⟩⟩
    have J1 : Inv X pns σ (upd H s.heap.objs.size (.tup [.int (i : Nat), x])) { s with heap := h'', toks := tk + 1 } :=
      I.turnedNew (ch := [e, it]) (fun bb ob kb q => (sbt.2 bb (fun zz => kb (by simp [zz]))).trans (kk bb ob (fun zz => kb (by simp [zz])) (fun zz => kb (by simp [zz])) q)) kf (Nat.le_refl _) nw
    refine ⟨.ref s.heap.objs.size, _, J1, rfl, ⟨_, x, rfl, I.hok.fresh (Nat.le_refl _), rfl, fun ys hy => by
      rw [I.tuple_inj hy kq]
      exact kx⟩, ⟨⟨x', ?_⟩, kit'.1.at fun o q => (sbt.2 it (Ne.symm kne)).trans q, kne, ka1, ka2⟩, fun bb kb => ?_⟩
    · have ei : ((i + 1 : Nat) : Int) = (i : Int) + 1 := by omega
      rw [ei]
      exact ke'
    · have kb' : bb < s.heap.objs.size := by
        have eb : bb = e ∨ bb = it := by simpa using kb
        rcases eb with zz | zz
        · rw [zz]
          exact kel
        · rw [zz]
          exact kil
      rw [upd_ne (Nat.ne_of_lt kb')]
      exact (kf bb kb).1
  done := by
    intro X hP hw hK kc i pns s σ H E I kf sg kg
    subst hP hw hK
    obtain ⟨⟨was, ke⟩, kit, kne, ka1, ka2⟩ := sg
    obtain ⟨xs, kq, kx⟩ := kg
    obtain ⟨ms, rm, pp, kz⟩ := I.tuple kq
    obtain ⟨p0, p1, p2, p3, p4, p5⟩ := kf it (by simp)
    have hl := rm.length
    have kT : s.TypeIs (.ref e) "enumerate" := ⟨_, ke, rfl⟩
    unfold pyNext
    refine wpAny_bind (wpAny_attempt (wpAny_callSpecial?_slot (name := Str.ofString "__next__") kT F.slot_enumerate_next
      (wpAny_call_entry F.slot_enumerate_next kT F.entry_enumerate_next ?_ (F.args_enumerate_next_1 _))))
    show wpAny _ _ (field (.ref e) 2 >>= _) _ _ _
    refine wpAny_bind (wpAny_field ke rfl (x := .ref it) rfl ?_)
    refine wpAny_bind (wpAny_nextOf_tuple_end (I.ok.hd kc) kit pp (by simp; omega) fun h' x ke' kx' => ?_)
    obtain ⟨o, go, hc'⟩ := kx'
    refine wpAny_bind (wpAny_isInstance (T := "StopIteration") (b := true) ⟨o, go, hc'⟩ isSubtype_stop ?_)
    exact wpAny_pure ⟨rfl, I.turned (t' := s.toks) (fun bb o kb q => ke' bb o kb q) p0 p1 p3 p4 p5⟩
  self := fun A i s Q E sg h => let ⟨⟨_, ke⟩, _⟩ := sg; wpAny_pyIter_enum ke h
def iEnumT (K : PySem.W.Frag) (ta : TA) : TI := fun σ H R => ta σ H fun vs H1 => ∃ a xs, vs = [.ref a] ∧ SqT K H1 a xs ∧ R (IteT K a) H1
theorem pi_enumT {X : Cx} {e : Expr} {ta : TA} {p pos tpos : Pos} {elts : List Expr} {kk : Nat} (hg : Gl X "enumerate") (hm : X.mg "enumerate" = none) (ha : PA X [e] ta) (hs : starEach [e] X.env = [(false, eval e X.env)] := by rfl) :
    PI X (.Tuple elts kk tpos) (.Call (.Name "enumerate" p) [e] [] pos) (iEnumT X.K ta) := by
  refine ⟨fun pins s σ H R I h => ?_⟩
  refine Call_ (ld_blt I hg hm boot_enumerate (PyProof.Rows.callWith_type1 (thn (ha.run pos pins s σ H _ I h) fun wz t1 ⟨zz, G1, J1, rz, qz⟩ => ?_) hs rfl))
  obtain ⟨a, xs, ex, hq, q⟩ := qz
  subst ex
  cases rz with
  | cons r rs2 =>
    cases rs2
    cases r
    obtain ⟨ms, rm, p', hm1⟩ := J1.tuple hq
    obtain ⟨o1, ho1, _⟩ := id p'
    have hal : a < t1.heap.objs.size := Heap.lt_size ho1
    refine call_enum_tup (show t1.heap.IsTuple a ms.toArray from p') fun g' he hit hsz kp => wpAny_pyIter_enum he ?_
    have J2 : Inv X pins σ G1 { t1 with heap := g' } := J1.kept (t' := t1.toks) kp
    refine ⟨t1.heap.objs.size + 1, [t1.heap.objs.size + 1, t1.heap.objs.size], _, _, G1, rfl, J2, turn_enumT a (t1.heap.objs.size + 1) t1.heap.objs.size, ⟨⟨.none, he⟩, hit, Nat.succ_ne_self _, Nat.ne_of_lt hal, Nat.ne_of_lt (Nat.lt_succ_of_lt hal)⟩, fun b hb => ?_, q⟩
    have eb : b = t1.heap.objs.size + 1 ∨ b = t1.heap.objs.size := by simpa using hb
    have hge : t1.heap.objs.size ≤ b := by
      rcases eb with z | z
      · rw [z]
        exact Nat.le_add_right _ _
      · rw [z]
        exact Nat.le_refl _
    exact J1.fpOk hge (J1.hok.fresh hge)
section
variable {ι : Type} {Y : ι → Cx} {P : Program} {w : World} {K : PySem.W.Frag} {mg : Str → Option Value} {base : Heap} {k k' : Nat} {σ : L2.St} {H H' : Hp} {a b c e elt src tg : Expr} {es : List Expr} {pos p p2 tp : Pos} {d d1 d2 : PyData} {ds ds1 ds2 rs : List PyData} {bs : List Bool} {x : Str} {b1 b2 : Bool} {D : Ends} {R : V → Hp → Prop} {scope : Scope} {rest body : List Stmt} {j : Nat} {js : List Nat} {s z : Str} {y : Dx} {ys : List Dx}
theorem walk_enumT {A : Addr} {xs : List V} : Walk (IteT K A) xs.length (fun H => SqT K H A xs) (YPair (fun i => some (.int (i : Nat))) (fun i => xs[i]?)) := by
  refine ⟨fun i _ hlt qq => ⟨xs, xs[i], qq, by simp [hlt]⟩, fun _ qq => ⟨xs, qq, Nat.le_refl _⟩, fun i H v H' _ qq yy => ?_⟩
  obtain ⟨Tt, x, g1, g2, g3, g4⟩ := yy
  exact ⟨Tt, .int (i : Nat), x, g1, g2, g3, rfl, g4 xs qq⟩
theorem walk_zipT' {n : Nat} {A B : Addr} {xs ys : List V} (hn : n = min xs.length ys.length) : Walk (RZ.ItzT K A B) n (fun H => SqT K H A xs ∧ SqT K H B ys) (YPair (fun i => xs[i]?) (fun i => ys[i]?)) := by
  subst hn
  refine ⟨fun i _ hlt qq => ?_, fun _ qq => ⟨xs, ys, qq.1, qq.2, by omega⟩, fun i H v H' _ qq yy => ?_⟩
  · have g1 : i < xs.length := by omega
    have g2 : i < ys.length := by omega
    exact ⟨xs, ys, xs[i], ys[i], qq.1, qq.2, by simp [g1], by simp [g2]⟩
  · obtain ⟨Tt, x, z, g1, g2, g3, g4, g5⟩ := yy
    exact ⟨Tt, x, z, g1, g2, g3, g4 xs qq.1, g5 ys qq.2⟩
theorem getD_dp {xs : List V} {ds : List PyData} {i : Nat} {y0 : V} (hx : DpAll K H xs ds) (h : xs[i]? = some y0) : Dp K H y0 (ds.getD i .none) := by
  have hl := dpa_len (vs := []) (ds := []) _ _ hx
  have hi := (List.getElem?_eq_some_iff.mp h).1
  have ed : ds[i]? = some ds[i] := List.getElem?_eq_getElem (by omega)
  obtain ⟨v', hv1, hv2⟩ := dpa_get _ _ _ _ hx ed
  rw [h] at hv1
  cases hv1
  rw [List.getD_eq_getElem?_getD, ed]
  exact hv2
theorem se_enumT {kk : Nat} {elts : List Expr} {tpos : Pos} (F : Fm P w K mg base k Y) (g : mg "enumerate" = none) (h : DE Y K σ H a (.tuple ds)) (hg : ∀ i, Gl (Y i) "enumerate" := by intro _; rfl) (he : ∀ i, starEach [a] (Y i).env = [(false, eval a (Y i).env)] := by intro _; rfl) :
    SE Y K σ H (.Tuple elts kk tpos) (.Call (.Name "enumerate" p) [a] [] pos) ds.length fun i => .tuple [.int (i : Nat), ds.getD i .none] := by
  obtain ⟨t, ht, h⟩ := xa_d h xa_nil he
  refine ⟨iEnumT K t, fun i => by
    have z := pi_enumT (p := p) (pos := pos) (elts := elts) (kk := kk) (tpos := tpos) (hg i) (by rw [F.hmg i]; exact g) (ht i) (he i)
    rw [F.hK i] at z
    exact z, fun H1 e1 R q => h H1 e1 _ fun vs H2 e2 hv => ?_⟩
  obtain ⟨v, rfl, hv1⟩ := vxs1 hv
  cases hv1 with
  | tup hq hx =>
    rename_i A xs
    have hl := dpa_len (vs := []) (ds := []) _ _ hx
    refine ⟨A, xs, rfl, hq, q _ H2 e2 ?_⟩
    rw [← hl]
    refine ⟨_, _, walk_enumT (xs := xs), fun H' u => up_t u hq, fun i H' v H'' hi u y => ?_⟩
    obtain ⟨T0, x0, y0, rfl, hT, rfl, hx0, hy0⟩ := y
    cases hx0
    exact ⟨same_new hT, .tup (SqT.of upd_same) (.cons (.int _) (.cons (dp_up (u.trans (up_of (same_new hT))) _ _ (getD_dp hx hy0)) .nil))⟩
/-- zip of two tuples -/
theorem se_zipT {kk n : Nat} {elts : List Expr} {tpos : Pos} (F : Fm P w K mg base k Y) (g : mg "zip" = none) (h1 : DE Y K σ H a (.tuple ds1)) (h2 : DE Y K σ H b (.tuple ds2)) (hn : n = min ds1.length ds2.length) (hg : ∀ i, Gl (Y i) "zip" := by intro _; rfl)
    (he : ∀ i, starEach [a, b] (Y i).env = (false, eval a (Y i).env) :: starEach [b] (Y i).env := by intro _; rfl) (he2 : ∀ i, starEach [b] (Y i).env = (false, eval b (Y i).env) :: starEach [] (Y i).env := by intro _; rfl) (hpl : ∀ i, (backTo pos (starEach [b] (Y i).env)).any (·.1) = false := by intro _; rfl) :
    SE Y K σ H (.Tuple elts kk tpos) (.Call (.Name "zip" p) [a, b] [] pos) n fun i => .tuple [ds1.getD i .none, ds2.getD i .none] := by
  obtain ⟨t, ht, h⟩ := xa_d h1 (xa_d h2 xa_nil he2) he
  refine ⟨RZ.iZipA K t, fun i => by
    have z := RZ.pi_zipA (p := p) (pos := pos) (elts := elts) (kk := kk) (tpos := tpos) (hg i) (by rw [F.hmg i]; exact g) (ht i) (he i) (hpl i)
    rw [F.hK i] at z
    exact z, fun H1 e1 R q => h H1 e1 _ fun vs H2 e2 hv => ?_⟩
  obtain ⟨v, u, rfl, hv1, hv2⟩ := vxs2 hv
  cases hv1 with
  | tup hq hx =>
    cases hv2 with
    | tup hq2 hx2 =>
      rename_i A xs B zs
      have l1 := dpa_len (vs := []) (ds := []) _ _ hx
      have l2 := dpa_len (vs := []) (ds := []) _ _ hx2
      refine ⟨A, B, xs, zs, rfl, .inr ⟨hq, hq2, q _ H2 e2 ?_⟩⟩
      refine ⟨_, _, walk_zipT' (xs := xs) (ys := zs) (by rw [l1, l2]; exact hn), fun H' u => ⟨up_t u hq, up_t u hq2⟩, fun i H' v H'' hi u y => ?_⟩
      obtain ⟨T0, x0, y0, rfl, hT, rfl, hx0, hy0⟩ := y
      exact ⟨same_new hT, .tup (SqT.of upd_same) (.cons (dp_up (u.trans (up_of (same_new hT))) _ _ (getD_dp hx hx0)) (.cons (dp_up (u.trans (up_of (same_new hT))) _ _ (getD_dp hx2 hy0)) .nil))⟩

/-! ## x not in a table of the module -/
theorem er_niK {p2 : Pos} (F : Fm P w K mg base k Y) (ha : DE Y K σ H a (.str s)) (g : mg x = some (.ref (He.ga K x))) (T : TKey K w x s b1) (hg : ∀ i, Gl (Y i) x := by intro _; rfl) (hd : (x == ("__debug__" : Str)) = false := by decide)
    (hm : behindInMarks .NotIn (.Name x p2) = false := by rfl) : DT Y σ H (.Compare a [.NotIn] [.Name x p2] pos) (!b1) := by
  obtain ⟨⟨es, n, D⟩, r, h1, h2⟩ := T
  obtain ⟨t1, ht, q1⟩ := ha
  obtain ⟨t2, ht2, q2⟩ := er_tab (pos := p2) (σ := σ) (H := H) F g hg hd
  refine ⟨tTest (tOp (fun x' y H Q => ∃ (z : Str) (r : Option Value), x' = .str z ∧ y = .ref (He.ga K x) ∧ PySem.W.nsIn K (He.ga K x) z = some r ∧ Q (.bl (!r.isSome)) H) t1 t2), fun i => pt_cmpR (by
    have D' : KDict (Y i).K (Y i).w (He.ga K x) es n := by
      rw [F.hK i, F.hw i]
      exact D
    have q := op_notIn_kd D'
    rw [F.hK i] at q
    exact q) (ht i) (ht2 i) hm, fun H1 e1 Q q => q1 H1 e1 _ fun v H2 e2 h3 => q2 H2 (e1.trans (up_of e2)) _ fun u H3 e3 eu => ?_⟩
  cases h3
  exact ⟨s, r, rfl, eu, h1, !r.isSome, rfl, by rw [h2]; exact q H3 (e2.trans e3)⟩

/-! ## t.index(x), t a tuple of the written part -/
/-- v is a written tuple, nothing hangs on it -/
def Fz (K : PySem.W.Frag) (v : V) : Prop := ∃ p o, v = .ref p ∧ K.lookup p = some o ∧ o.cls = .type "tuple" ∧ o.dict = none
theorem dpa_strs : ∀ {zs : List Str} {vs : List V}, DpAll K H vs (zs.map PyData.str) → vs = zs.map V.str
  | [], _, h => by
    cases h
    rfl
  | z :: zs, _, h => by
    cases h with
    | cons h1 h2 =>
      cases h1
      rw [dpa_strs h2] <;> rfl
theorem de_index {zs : List Str} {apos cpos : Pos} (F : Fm P w K mg base k Y) (ha : ER Y σ H a fun v H' => Dp K H' v (.tuple (zs.map .str)) ∧ Fz K v) (hb : DE Y K σ H b (.str z)) (hj : zs[j]? = some z) (hno : ∀ m, m < j → zs[m]? ≠ some z)
    (hbase : ∀ i, attributeBase a "index" (Y i).env (eval a (Y i).env) = eval a (Y i).env := by intro _; rfl)
    (hfew : ∀ i, ((backTo cpos (starEach [b] (Y i).env)).all (fun x => !x.1) && (backToKw cpos (keywordEach [] (Y i).env)).all (fun x => x.1.isSome)
      && decide (([b] : List Expr).length + ([] : List Keyword).length + (if ([] : List Keyword).isEmpty then 0 else 1) < 30)) = true := by intro _; rfl)
    (hline : (apos.endLine == cpos.line) = true := by rfl) (hs : ∀ i, starEach [b] (Y i).env = (false, eval b (Y i).env) :: starEach [] (Y i).env := by intro _; rfl) (hplain : ∀ i, (backTo cpos (starEach [] (Y i).env)).any (·.1) = false := by intro _; rfl) :
    DE Y K σ H (.Call (.Attribute a "index" apos) [b] [] cpos) (.int (j : Nat)) := by
  obtain ⟨t1, h1, q1⟩ := ha
  obtain ⟨t2, h2, q2⟩ := xa_d hb xa_nil hs
  refine ⟨tBM K "tuple" (fun x xs H Q => ∃ p, ∃ ys : List Str, ∃ z j, x = .ref p ∧ xs = [.str z] ∧ SqT K H p (ys.map V.str) ∧ ys[j]? = some z ∧ (∀ m, m < j → ys[m]? ≠ some z) ∧ Q (.int (j : Nat)) H) t1 t2, fun i => ?_, fun H1 e1 Q q => q1 H1 e1 _ fun v H2 e2 hv => ⟨?_, q2 H2 (e1.trans (up_of e2)) _ fun vs H3 e3 hvs => ?_⟩⟩
  · have m := mt_tup_index (X := Y i)
    rw [F.hK i] at m
    have z := pe_bm (X := Y i) (apos := apos) (cpos := cpos) (T := "tuple") PySem.F.plainAttrs_tuple PySem.F.slot_tuple_index PySem.F.type_tuple_index m (h1 i) (h2 i) (hbase i) (hfew i) hline (hs i) (hplain i)
    rw [F.hK i] at z
    exact z
  · obtain ⟨_, p, o, rfl, ho, hc, hd⟩ := hv
    exact .inr (.inl ⟨rfl, o, ho, hc, hd⟩)
  · obtain ⟨u, rfl, hu⟩ := vxs1 hvs
    obtain ⟨hv1, _⟩ := hv
    cases hu
    cases dp_up (up_of e3) _ _ hv1 with
    | tup hq hx =>
      rw [dpa_strs hx] at hq
      exact ⟨_, zs, z, j, rfl, rfl, hq, hj, hno, q _ H3 (e2.trans e3) (.int _)⟩
end
end PK
namespace PK
open L2 PySem PySem.Spec PyProof.Rows
theorem bif_str {b : Bool} {x y : Str} : (bif b then PyData.str x else PyData.str y) = PyData.str (if b = true then x else y) := by cases b <;> rfl
theorem bif_int {b : Bool} {x y : Int} : (bif b then PyData.int x else PyData.int y) = PyData.int (if b = true then x else y) := by cases b <;> rfl
theorem keepL_true : ∀ (rs : List PyData), keepL (List.replicate rs.length true) rs = rs
  | [] => rfl
  | r :: rs => by
    show keepL (true :: List.replicate rs.length true) (r :: rs) = _
    unfold keepL
    rw [keepL_true rs] <;> rfl
theorem keepL_map (p : PyData → Bool) (f : PyData → PyData) : ∀ (ds : List PyData), keepL (ds.map p) (ds.map f) = (ds.filter p).map f
  | [] => rfl
  | d :: ds => by
    show keepL (p d :: ds.map p) (f d :: ds.map f) = _
    unfold keepL
    rw [keepL_map p f ds, List.filter_cons]
    cases p d <;> rfl
section
variable {ι : Type} {Y : ι → Cx} {P : Program} {w : World} {K : PySem.W.Frag} {mg : Str → Option Value} {base : Heap} {k k' : Nat} {σ : L2.St} {H H' : Hp} {a b c e elt src tg : Expr} {es : List Expr} {pos p p2 tp : Pos} {d d1 d2 : PyData} {ds ds1 ds2 rs : List PyData} {bs : List Bool} {x : Str} {b1 b2 : Bool} {D : Ends} {R : V → Hp → Prop} {scope : Scope} {rest body : List Stmt} {js : List Nat} {s z : Str} {y : Dx} {ys : List Dx}
/-- [elt for x in a tuple] -/
theorem de_lcTm {pos' : Pos} (j : Nat) (f : PyData → PyData) (F : Fm P w K mg base k Y) (hs : DE Y K σ H src (.tuple ds)) (he : ∀ (d : PyData) (v : V) (H1 : Hp), Up H H1 → d ∈ ds → Dp K H1 v d → DE (blkY Y scope) K ((wipe σ [j]).set j (some v)) H1 elt (f d))
    (hno : noLs (ds.map f) = true) (hz : ds.length ≤ 16777216) (ok : ∀ i, BlkOk (Y i).N (Y i).env.scope scope [(x, j)])
    (hi : ∀ q, (blkY Y scope q).N[j]? = some x := by intro _; rfl) (hx : ∀ q, Loc (blkY Y scope q).env.scope x := by intro _; first | exact Or.inl rfl | exact Or.inr rfl) (hf : ∀ q, (blkY Y scope q).fn x = true ∨ (blkY Y scope q).env.scope.names.lookup x = some .local := by intro _; first | exact .inl rfl | exact .inr rfl)
    (hfs : ∀ i x, foldedSetIterable src (Y i).env x = pure x := by intro _ _; rfl) : DE Y K σ H (.ListComp elt [⟨.Name x pos', src, [], 0⟩] scope pos) (.list (ds.map f)) := by
  have q := de_lcT (rs := ds.map f) (bs := List.replicate (ds.map f).length true) (pos := pos) (pos' := pos') (elt := elt) (x := x) (scope := scope) j [] F hs (by simp) (by simp) hno hz ok
    (fun i d v H1 b0 u e1 e2 hd => .inl ⟨rfl, by
      have := List.mem_of_getElem? e2
      exact (List.mem_replicate.mp this).2⟩) (fun i d r v H1 u e1 e2 _ hd => by
      have : r = f d := by
        rw [List.getElem?_map, e1] at e2
        exact (Option.some.inj e2).symm
      subst this
      exact he d v H1 u (List.mem_of_getElem? e1) hd) (.inl rfl) hi hx hf hfs
  rw [keepL_true] at q
  exact q
/-- all([elt for x in a tuple]) where each is so -/
theorem de_allT {pos' pos2 : Pos} (j : Nat) (F : Fm P w K mg base k Y) (g : mg "all" = none) (hs : DE Y K σ H src (.tuple ds)) (he : ∀ (d : PyData) (v : V) (H1 : Hp), Up H H1 → d ∈ ds → Dp K H1 v d → Fm P w K mg base k (blkY Y scope) → DE (blkY Y scope) K ((wipe σ [j]).set j (some v)) H1 elt (.bool true))
    (hz : Nat.ble ds.length 16777216 = true := by rfl) (ok : ∀ i, BlkOk (Y i).N (Y i).env.scope scope [(x, j)])
    (hi : ∀ q, (blkY Y scope q).N[j]? = some x := by intro _; rfl) (hx : ∀ q, Loc (blkY Y scope q).env.scope x := by intro _; first | exact Or.inl rfl | exact Or.inr rfl) (hf : ∀ q, (blkY Y scope q).fn x = true ∨ (blkY Y scope q).env.scope.names.lookup x = some .local := by intro _; first | exact .inl rfl | exact .inr rfl)
    (hfs : ∀ i x, foldedSetIterable src (Y i).env x = pure x := by intro _ _; rfl) (hg : ∀ i, Gl (Y i) "all" := by intro _; rfl)
    (hst : ∀ i, starEach [.ListComp elt [⟨.Name x pos', src, [], 0⟩] scope pos2] (Y i).env = (false, eval (.ListComp elt [⟨.Name x pos', src, [], 0⟩] scope pos2) (Y i).env) :: starEach [] (Y i).env := by intro _; rfl) (hpl : ∀ i, (backTo pos (starEach [] (Y i).env)).any (·.1) = false := by intro _; rfl) :
    DE Y K σ H (.Call (.Name "all" p) [.ListComp elt [⟨.Name x pos', src, [], 0⟩] scope pos2] [] pos) (.bool true) := by
  have no : ∀ (ds : List PyData), noLs (ds.map fun _ => PyData.bool true) = true := by
    intro ds
    induction ds with
    | nil => rfl
    | cons d ds ih =>
      show noLs (PyData.bool true :: ds.map fun _ => PyData.bool true) = true
      unfold noLs
      rw [ih] <;> rfl
  have q := de_lcTm (pos := pos2) (pos' := pos') (elt := elt) (x := x) (scope := scope) j (fun _ => .bool true) F hs (fun d v H1 u hd hv => he d v H1 u hd hv (F.blk scope)) (no ds) (Nat.le_of_ble_eq_true hz) ok hi hx hf hfs
  have e : (ds.map fun _ => PyData.bool true) = (ds.map fun _ => true).map PyData.bool := by rw [List.map_map] <;> rfl
  rw [e] at q
  have r := de_all (p := p) (pos := pos) F g q hg hst hpl
  have e2 : (ds.map fun _ => true).all id = true := by simp
  rw [e2] at r
  exact r
/-- [elt for x in a tuple if c] -/
theorem de_lcTf {pos' : Pos} (j : Nat) (f : PyData → PyData) (p : PyData → Bool) (F : Fm P w K mg base k Y) (hs : DE Y K σ H src (.tuple ds)) (ht : ∀ (d : PyData) (v : V) (H1 : Hp), Up H H1 → d ∈ ds → Dp K H1 v d → DT (blkY Y scope) ((wipe σ [j]).set j (some v)) H1 c (p d))
    (he : ∀ (d : PyData) (v : V) (H1 : Hp), Up H H1 → d ∈ ds → p d = true → Dp K H1 v d → DE (blkY Y scope) K ((wipe σ [j]).set j (some v)) H1 elt (f d))
    (hno : noLs (ds.map f) = true) (hz : ds.length ≤ 16777216) (ok : ∀ i, BlkOk (Y i).N (Y i).env.scope scope [(x, j)])
    (hi : ∀ q, (blkY Y scope q).N[j]? = some x := by intro _; rfl) (hx : ∀ q, Loc (blkY Y scope q).env.scope x := by intro _; first | exact Or.inl rfl | exact Or.inr rfl) (hf : ∀ q, (blkY Y scope q).fn x = true ∨ (blkY Y scope q).env.scope.names.lookup x = some .local := by intro _; first | exact .inl rfl | exact .inr rfl)
    (hfs : ∀ i x, foldedSetIterable src (Y i).env x = pure x := by intro _ _; rfl) : DE Y K σ H (.ListComp elt [⟨.Name x pos', src, [c], 0⟩] scope pos) (.list ((ds.filter p).map f)) := by
  have q := de_lcT (rs := ds.map f) (bs := ds.map p) (pos := pos) (pos' := pos') (elt := elt) (x := x) (scope := scope) j [c] F hs (by simp) (by simp) hno hz ok
    (fun i d v H1 b0 u e1 e2 hd => .inr ⟨c, rfl, by
      rw [List.getElem?_map, e1] at e2
      rw [← Option.some.inj e2]
      exact ht d v H1 u (List.mem_of_getElem? e1) hd⟩) (fun i d r v H1 u e1 e2 e3 hd => by
      rw [List.getElem?_map, e1] at e2 e3
      rw [← Option.some.inj e2]
      exact he d v H1 u (List.mem_of_getElem? e1) (Option.some.inj e3) hd) (.inr ⟨c, rfl⟩) hi hx hf hfs
  rw [keepL_map] at q
  exact q
/-- all([elt for a, b in ..]) where each is so -/
theorem de_allI {own : List (Str × Nat)} {n : Nat} {im : Nat → PyData} {ok : PyData → List PyData → Prop} {fs : Nat → List PyData} {pos2 : Pos} (F : Fm P w K mg base k Y) (g : mg "all" = none) (hs : SE Y K σ H tg src n im) (htg : TBs (blkY Y scope) K tg js ok) (hown : own.map (·.2) = js) (hok : ∀ i, i < n → ok (im i) (fs i))
    (hz : n ≤ 16777216) (hblk : ∀ i, BlkOk (Y i).N (Y i).env.scope scope own)
    (he : ∀ (i : Nat) (vs : List V) (H1 : Hp), Up H H1 → i < n → vs.length = js.length → DpAll K H1 vs (fs i) → Fm P w K mg base k (blkY Y scope) → DE (blkY Y scope) K (sets js vs (wipe σ js)) H1 elt (.bool true))
    (hfs : ∀ i x, foldedSetIterable src (Y i).env x = pure x := by intro _ _; rfl) (hg : ∀ i, Gl (Y i) "all" := by intro _; rfl)
    (hst : ∀ i, starEach [.ListComp elt [⟨tg, src, [], 0⟩] scope pos2] (Y i).env = (false, eval (.ListComp elt [⟨tg, src, [], 0⟩] scope pos2) (Y i).env) :: starEach [] (Y i).env := by intro _; rfl) (hpl : ∀ i, (backTo pos (starEach [] (Y i).env)).any (·.1) = false := by intro _; rfl) :
    DE Y K σ H (.Call (.Name "all" p) [.ListComp elt [⟨tg, src, [], 0⟩] scope pos2] [] pos) (.bool true) := by
  have no : ∀ n : Nat, noLs (List.replicate n (PyData.bool true)) = true := by
    intro n
    induction n with
    | zero => rfl
    | succ n ih =>
      show noLs (PyData.bool true :: List.replicate n (PyData.bool true)) = true
      unfold noLs
      rw [ih] <;> rfl
  have q := de_lc (rs := List.replicate n (.bool true)) (bs := List.replicate (List.replicate n (PyData.bool true)).length true) (pos := pos2) (elt := elt) [] F hs htg hown hok (by simp) (by simp) (no n) hz hblk (.inl rfl)
    (fun i vs H1 b0 u hi e2 hl hd => .inl ⟨rfl, (List.mem_replicate.mp (List.mem_of_getElem? e2)).2⟩) (fun i r vs H1 u hi er eb hl hd => by
      rw [(List.mem_replicate.mp (List.mem_of_getElem? er)).2]
      exact he i vs H1 u hi hl hd (F.blk scope)) hfs
  rw [keepL_true] at q
  have e : List.replicate n (PyData.bool true) = (List.replicate n true).map PyData.bool := by simp
  rw [e] at q
  have r := de_all (p := p) (pos := pos) F g q hg hst hpl
  have e2 : (List.replicate n true).all id = true := by simp
  rw [e2] at r
  exact r
/-- the written tuple at a key of a table -/
def TW (K : PySem.W.Frag) (x s : Str) : Prop := ∀ u v, PySem.W.nsIn K (He.ga K x) s = some (some u) → RelV v u → Fz K v
theorem er_atW {p2 : Pos} (F : Fm P w K mg base k Y) (ha : DE Y K σ H a (.str s)) (g : mg x = some (.ref (He.ga K x))) (T : TV K w x s d) (W : TW K x s) (hg : ∀ i, Gl (Y i) x := by intro _; rfl) (hd : (x == ("__debug__" : Str)) = false := by decide)
    (hs : PlainIx a := by exact fun _ _ => rfl) : ER Y σ H (.Subscript (.Name x p2) a pos) fun v H' => Dp K H' v d ∧ Fz K v := by
  obtain ⟨⟨es, n, D⟩, u0, v0, h1, h2, h3⟩ := T
  obtain ⟨t1, ht, q1⟩ := ha
  obtain ⟨t2, ht2, q2⟩ := er_tab (pos := p2) (σ := σ) (H := H) F g hg hd
  refine ⟨tOp (rIxD K w) t2 t1, fun i => pe_ix (by
    have q := ix_kdict (X := Y i)
    rw [F.hK i, F.hw i] at q
    exact q) (ht2 i) (ht i) hs, fun H1 e1 Q q => q2 H1 e1 _ fun u H2 e2 eu => q1 H2 (e1.trans (up_of e2)) _ fun v H3 e3 h4 => ?_⟩
  cases h4
  exact ⟨_, s, v0, eu, rfl, ⟨es, n, u0, D.at_, D.lit, h1, h2⟩, q _ H3 (e2.trans e3) ⟨h3 H3, W u0 v0 h1 h2⟩⟩
theorem er_vF (j : Nat) {v : V} (h : Dp K H v d) (hf : Fz K v) (hs : σ[j]? = some (some v) := by rfl) (hN : ∀ i, (Y i).N[j]? = some x := by intro _; rfl)
    (hv : ∀ i, Vis (Y i).env.scope x := by intro _; first | exact Or.inl rfl | exact Or.inr (Or.inl rfl) | exact Or.inr (Or.inr rfl)) (hd : (x == ("__debug__" : Str)) = false := by decide) (hcd : (x == ("__classdict__" : Str)) = false := by decide) :
    ER Y σ H (.Name x pos) fun v H' => Dp K H' v d ∧ Fz K v := er_v j (fun H1 e1 => ⟨dp_up e1 d v h, hf⟩) hs hN hv hd hcd
/-- a, b, .. = a tuple of data; the slots -/
theorem dt_eq (h : DT Y σ H e b1) (q : b1 = b2) : DT Y σ H e b2 := q ▸ h
end
end PK
namespace PK
open L2 PySem PySem.Spec PyProof.Rows
section
variable {ι : Type} {Y : ι → Cx} {P : Program} {w : World} {K : PySem.W.Frag} {mg : Str → Option Value} {base : Heap} {k k' : Nat} {σ : L2.St} {H H' : Hp} {a b c e elt src tg : Expr} {es : List Expr} {pos p p2 tp : Pos} {d d1 d2 : PyData} {ds ds1 ds2 rs : List PyData} {bs : List Bool} {x : Str} {b1 b2 : Bool} {D : Ends} {R : V → Hp → Prop} {scope : Scope} {rest body : List Stmt} {js : List Nat} {s z : Str} {y : Dx} {ys : List Dx}
/-- isinstance(x, (S, T)), built-in classes by name -/
theorem de_isi2 (t1 t2 : Bt) {n1 n2 : Str} {p1 p2 tp : Pos} {kk : Nat} (F : Fm P w K mg base k Y) (g : mg "isinstance" = none) (gT : mg n1 = none) (gS : mg n2 = none) (ha : DE Y K σ H a d) (hT : n1 = Str.ofString t1.n := by rfl) (hS : n2 = Str.ofString t2.n := by rfl) (hg : ∀ i, Gl (Y i) "isinstance" := by intro _; rfl) (hg1 : ∀ i, Gl (Y i) n1 := by intro _; rfl) (hg2 : ∀ i, Gl (Y i) n2 := by intro _; rfl)
    (hn1 : n1 ≠ "__name__" := by decide) (hd1 : (n1 == ("__debug__" : Str)) = false := by decide) (hn2 : n2 ≠ "__name__" := by decide) (hd2 : (n2 == ("__debug__" : Str)) = false := by decide)
    (he : ∀ i, starEach [a, .Tuple [.Name n1 p1, .Name n2 p2] kk tp] (Y i).env = (false, eval a (Y i).env) :: starEach [.Tuple [.Name n1 p1, .Name n2 p2] kk tp] (Y i).env := by intro _; rfl)
    (he2 : ∀ i, starEach [.Tuple [.Name n1 p1, .Name n2 p2] kk tp] (Y i).env = (false, eval (.Tuple [.Name n1 p1, .Name n2 p2] kk tp) (Y i).env) :: starEach [] (Y i).env := by intro _; rfl)
    (he3 : ∀ i, starEach [.Name n1 p1, .Name n2 p2] (Y i).env = (false, eval (.Name n1 p1) (Y i).env) :: starEach [.Name n2 p2] (Y i).env := by intro _; rfl)
    (he4 : ∀ i, starEach [.Name n2 p2] (Y i).env = (false, eval (.Name n2 p2) (Y i).env) :: starEach [] (Y i).env := by intro _; rfl)
    (hpl : ∀ i, (backTo pos (starEach [.Tuple [.Name n1 p1, .Name n2 p2] kk tp] (Y i).env)).any (·.1) = false := by intro _; rfl) :
    DE Y K σ H (.Call (.Name "isinstance" p) [a, .Tuple [.Name n1 p1, .Name n2 p2] kk tp] [] pos) (.bool (isiD d t1 || isiD d t2)) := by
  obtain ⟨t, h1, q1⟩ := ha
  refine ⟨tCB (rIsiT K) (tCons t (tCons (tTup (tCons (tC (.ty t1.n)) (tCons (tC (.ty t2.n)) tNil))) tNil)), fun i => pe_callB (by
    have q := call_isiT (X := Y i)
    rw [F.hK i] at q
    exact q) (hg i) (by rw [F.hmg i]; exact g) boot_isinstance (pa_cons (h1 i) (pa_cons (pe_tup (pa_cons (pe_bltn (hg1 i) (by rw [F.hmg i]; exact gT) (boot_bt t1 hT) rfl hn1 hd1) (pa_cons (pe_bltn (hg2 i) (by rw [F.hmg i]; exact gS) (boot_bt t2 hS) rfl hn2 hd2) pa_nil (he4 i)) (he3 i))) pa_nil (he2 i)) (he i)) (by decide) (by decide) (he i) (hpl i), fun H1 e1 Q q => q1 H1 e1 _ fun v H2 e2 hv => ?_⟩
  refine ⟨by show 2 ≤ sizeLine; decide, fun p hp => ?_⟩
  refine ⟨v, p, [.ty t1.n, .ty t2.n], _, _, isiD d t1 || isiD d t2, rfl, upd_same, .cons (.ty _) (.cons (.ty _) .nil), ty_of (dp_up (up_of (same_new hp)) _ _ hv), ?_, q _ _ (e2.trans (same_new hp)) (.bl _)⟩
  refine kitAny_cons (kit_ty (kit_tab d t1)) (fun hb => ?_) fun hb => by rw [hb] <;> rfl
  rw [hb]
  exact kitAny_cons (b := isiD d t2) (r := false || isiD d t2) (kit_ty (kit_tab d t2)) (fun hb => by
    rw [hb]
    exact kitAny_nil) fun hb => by rw [hb] <;> rfl
/-- 0 <= x < n, as a test -/
theorem dt_chain {op1 op2 : CmpOp} {z1 z2 : Bool} {d3 : PyData} (ha : DE Y K σ H a d1) (hb : DE Y K σ H b d2) (hc : DE Y K σ H c d3) (hr : CmpR Y K op1 b d1 d2 z1) (hr2 : CmpR Y K op2 c d2 d3 z2)
    (hm : lastMarks [op1, op2] [b, c] = false := by with_unfolding_all rfl) : DT Y σ H (.Compare a [op1, op2] [b, c] pos) (z1 && z2) := by
  obtain ⟨t1, h1, q1⟩ := ha
  obtain ⟨t2, h2, q2⟩ := hb
  obtain ⟨t3, h3, q3⟩ := hc
  obtain ⟨_, r, hr, q⟩ := hr
  obtain ⟨_, r', hr', q'⟩ := hr2
  refine ⟨tTest (tChain r r' t1 t2 t3), fun i => pt_chain (hr i) (hr' i) (h1 i) (h2 i) (h3 i) hm, fun H1 e1 Q qq => q1 H1 e1 _ fun v H2 e2 hv => q2 H2 (e1.trans (up_of e2)) _ fun u H3 e3 hu => ?_⟩
  refine q v u H3 (dp_up (up_of e3) _ _ hv) hu _ ⟨z1, rfl, ?_⟩
  cases z1 with
  | true => exact iteT (q3 H3 ((e1.trans (up_of e2)).trans (up_of e3)) _ fun x H4 e4 hx => q' u x H4 (dp_up (up_of e4) _ _ hu) hx _ ⟨z2, rfl, qq H4 ((e2.trans e3).trans e4)⟩)
  | false => exact iteF ⟨false, rfl, qq H3 (e2.trans e3)⟩
/-- o.f = e, o a new object of the class C -/
theorem ds_fld {f : Str} {j : Nat} {A dx C : Addr} {xo : Str} {fs : List (Str × V)} {po pos' : Pos} (F : Fm P w K mg base k Y) (ha : ER Y σ H e R) (c : Cls K C) (n : NoAttr K C f) (hj : σ[j]? = some (some (.ref A))) (hA : H A = some (.ins C dx fs)) (hl : fs.length < 1000)
    (hk : ∀ v H1, Same H H1 → R v H1 → DSs Y D σ (upd H1 A (.ins C dx (putF f v fs))) rest) (hN : ∀ i, (Y i).N[j]? = some xo := by intro _; rfl) (hv : ∀ i, Vis (Y i).env.scope xo := by intro _; first | exact Or.inl rfl | exact Or.inr (Or.inl rfl) | exact Or.inr (Or.inr rfl))
    (hd : (xo == ("__debug__" : Str)) = false := by decide) (hcd : (xo == ("__classdict__" : Str)) = false := by decide)
    (hs : ∀ i, swapsWith e (some (.Attribute (.Name xo po) f pos')) pos.line (Y i).env = pure false := by intro _; rfl) : DSs Y D σ H (.Assign [.Attribute (.Name xo po) f pos'] e pos :: rest) := by
  obtain ⟨t, ht, h⟩ := ha
  refine ds_cons ⟨sFld K (tVar j) t f, fun i => by
    have z := ps_fld (pos := pos) (pos' := pos') (f := f) (pe_var (pos := po) (hN i) (hv i) hd hcd) (ht i) (hs i)
    rw [F.hK i] at z
    exact z, h H (Up.refl H) _ fun v H1 e1 h1 => ?_⟩
  exact ⟨.ref A, hj, A, C, dx, fs, rfl, e1 _ _ hA, c, n, hl, hk v H1 e1 h1⟩
/-- C(e): a new object by its __init__ -/
theorem er_make {C f : Addr} {fd : FuncData} {ps : List Str} {sp : Sp} (F : Fm P w K mg base k Y) (M : Mk K C f) (G : FnOk P w K mg base CX0 k' f fd ps sp) (bd : Binds K fd ps []) (gm : mg x = some (.ref C)) (ha : XA Y K σ H (e :: es) ys)
    (hsp : ∀ vs H1 p dx, Up H H1 → Vxs K H1 vs ys → H1 p = none → H1 dx = none → dx ≠ p → ∀ Q : VK, (∀ H2, Same H1 H2 → R (.ref p) H2 → Q .non H2) → sp (.ref p :: vs) (upd (upd H1 dx (.own p)) p (.ins C dx [])) Q E0) (hk : k' + 1 ≤ k := by decide) (hg : ∀ i, Gl (Y i) x := by intro _; rfl)
    (hdb : (x == ("__debug__" : Str)) = false := by decide) (he : ∀ i, starEach (e :: es) (Y i).env = (false, eval e (Y i).env) :: starEach es (Y i).env := by intro _; rfl) (hpl : ∀ i, (backTo pos (starEach es (Y i).env)).any (·.1) = false := by intro _; rfl) : ER Y σ H (.Call (.Name x p) (e :: es) [] pos) R := by
  obtain ⟨t1, h1, q1⟩ := ha
  refine ⟨tMake C sp [] E0 t1, fun i => ?_, fun H1 e1 Q q => q1 H1 e1 _ fun vs H2 e2 hv p dx hp hdx hne => ?_⟩
  · have G' : FnOk (Y i).prog (Y i).w (Y i).K (Y i).mg (Y i).base CX0 k' f fd ps sp := by
      rw [F.hP i, F.hw i, F.hK i, F.hmg i, F.hb i]
      exact G
    exact pe_make (by rw [F.hK i]; exact M) G' ((F.rm i).mono hk) (hg i) (by rw [F.hmg i]; exact gm) (by rw [F.hK i]; exact bd) .nil pass0 (h1 i) hdb (he i) (hpl i)
  · rw [List.append_nil]
    exact hsp vs H2 p dx (e1.trans (up_of e2)) hv hp hdx hne _ fun H3 e3 h3 => ⟨rfl, q _ H3 (e2.trans e3) h3⟩
end
end PK
namespace PK
open L2 PySem PySem.Spec PyProof.Rows
/-! ## new lists -/
/-- v is a list of its own with these data -/
def FL (K : PySem.W.Frag) (H : Hp) (v : V) (ds : List PyData) : Prop := ∃ p xs, v = .ref p ∧ H p = some (.lst xs) ∧ DpAll K H xs ds
theorem FL.dp {K : PySem.W.Frag} {H : Hp} {v : V} {ds : List PyData} (h : FL K H v ds) : Dp K H v (.list ds) := by
  obtain ⟨p, xs, rfl, h1, h2⟩ := h
  exact .lst (SqL.of h1) h2
theorem FL.up {K : PySem.W.Frag} {H H' : Hp} {v : V} {ds : List PyData} (h : FL K H v ds) (e : Up H H') : FL K H' v ds := by
  obtain ⟨p, xs, rfl, h1, h2⟩ := h
  exact ⟨p, xs, rfl, e _ _ h1 (fun _ z => by cases z), dpa_up e _ _ h2⟩
/-! ## tuple * int, 0 or 1 -/
theorem tuple_mul0 (l : Addr) (items : Array Value) (n : Nat) (dd : Option Addr) (sl : Array (Option Value)) (u : Tok) (c1 : (items.isEmpty || (0 : Int) == 1) = false) :
    Meets (Builtin.«tuple.__mul__» ⟨[.ref l, .int 0 u], []⟩) (fun _ R s => s.heap.get? l = some { cls := .type "tuple", dict := dd, data := .seq items n, slots := sl } ∧
      R (.ok (.ret (Value.ref s.heap.objs.size))) { s with heap := s.heap.push { cls := Value.type "tuple", data := Data.seq #[] }, toks := s.toks }) :=
  .of_wp fun prog w A R s h => by
    obtain ⟨h9, g, d, tk, os⟩ := s
    obtain ⟨hl, h⟩ := h
    have f1 := AutoSeq1.idx_int
    wp_walk using AutoSeq1.wpAny_loadPart' hl
    repeat (first
      | (refine wpAny_ite_false (decide_eq_false (by rw [c1]; exact Bool.false_ne_true)) ?_; wp_walk using AutoSeq1.wpAny_loadPart' hl)
      | (refine wpAny_ite_true (by decide) ?_; wp_walk using AutoSeq1.wpAny_loadPart' hl)
      | (refine wpAny_ite_false (by decide) ?_; wp_walk using AutoSeq1.wpAny_loadPart' hl))
    exact ⟨_, rfl, h⟩
theorem tuple_mul1 (l : Addr) (items : Array Value) (n : Nat) (dd : Option Addr) (sl : Array (Option Value)) (u : Tok) :
    Meets (Builtin.«tuple.__mul__» ⟨[.ref l, .int 1 u], []⟩) (fun _ R s => s.heap.get? l = some { cls := .type "tuple", dict := dd, data := .seq items n, slots := sl } ∧ R (.ok (.ret (Value.ref l))) s) :=
  .of_wp fun prog w A R s h => by
    obtain ⟨h9, g, d, tk, os⟩ := s
    obtain ⟨hl, h⟩ := h
    have f1 := AutoSeq1.idx_int
    have c1 : (items.isEmpty || (1 : Int) == 1) = true := by rw [show ((1 : Int) == 1) = true from rfl, Bool.or_true]
    wp_walk using AutoSeq1.wpAny_loadPart' hl
    repeat (first
      | (refine wpAny_ite_true (decide_eq_true c1) ?_; wp_walk using AutoSeq1.wpAny_loadPart' hl)
      | (refine wpAny_ite_true (by decide) ?_; wp_walk using AutoSeq1.wpAny_loadPart' hl)
      | (refine wpAny_ite_false (by decide) ?_; wp_walk using AutoSeq1.wpAny_loadPart' hl))
    exact ⟨_, rfl, h⟩
def rRep01 (K : PySem.W.Frag) : R2 := fun x y H Q => ∃ l k xs, x = .ref l ∧ y = .int k ∧ SqT K H l xs ∧ xs ≠ [] ∧ ((k = 1 ∧ Q (.ref l) H) ∨ (k = 0 ∧ ∀ p, H p = none → Q (.ref p) (upd H p (.tup []))))
theorem op_rep01 {X : Cx} : OpR X (binaryOp .Mult) (rRep01 X.K) := by
  intro pins s σ H x y v u Q I rx ry h
  obtain ⟨l, k, xs, rfl, rfl, hTu, hno, qq⟩ := h
  cases rx
  obtain ⟨t, rfl⟩ := ry
  obtain ⟨ms, r, ⟨⟨cls, dd, data, sl⟩, go, kc, n, kd⟩, hs⟩ := I.tuple hTu
  simp only at kc kd
  subst kc kd
  have hge : ms.length = xs.length := r.length.symm
  have hms : ms ≠ [] := fun e => hno (by
    rw [e] at hge
    exact List.eq_nil_of_length_eq_zero hge.symm)
  have hem : ms.toArray.isEmpty = false := by
    cases ms with
    | nil => exact absurd rfl hms
    | cons a b => rfl
  rcases qq with ⟨rfl, qq⟩ | ⟨rfl, qq⟩
  · exact wpAny_binaryOp_repeat_ref (T := "tuple") (U := "int") (by decide) ⟨_, go, rfl⟩ (fun s' => typeIs_int s' 1 t) noFill_tuple_mul F.fills_int_mul F.slot_int_rmul repeat_tuple F.slot_int_index.lookup
      (call_meets F.slot_int_rmul (typeIs_int s 1 t) F.entry_int_rmul (F.args_int_rmul_2 _ _) (int_rmul_tuple 1 t l ms.toArray n dd sl)
        ⟨go, rfl, ⟨_, go, rfl⟩, call_meets F.slot_tuple_mul ⟨_, go, rfl⟩ F.entry_tuple_mul (F.args_tuple_mul_2 _ _) (tuple_mul1 l ms.toArray n dd sl t) ⟨go, ⟨.ref l, H, I, rfl, qq⟩⟩⟩)
  · refine wpAny_binaryOp_repeat_ref (T := "tuple") (U := "int") (by decide) ⟨_, go, rfl⟩ (fun s' => typeIs_int s' 0 t) noFill_tuple_mul F.fills_int_mul F.slot_int_rmul repeat_tuple F.slot_int_index.lookup
      (call_meets F.slot_int_rmul (typeIs_int s 0 t) F.entry_int_rmul (F.args_int_rmul_2 _ _) (int_rmul_tuple 0 t l ms.toArray n dd sl)
        ⟨go, rfl, ⟨_, go, rfl⟩, call_meets F.slot_tuple_mul ⟨_, go, rfl⟩ F.entry_tuple_mul (F.args_tuple_mul_2 _ _) (tuple_mul0 l ms.toArray n dd sl t (by rw [hem] <;> rfl)) ⟨go, ?_⟩⟩)
    refine ⟨.ref s.heap.objs.size, _, I.laid (t' := s.toks) (o := .tup []) (fun b ob qq => Heap.get?_push_of_some _ qq) (Nat.le_refl _) ?_, rfl, qq _ (I.hok.fresh (Nat.le_refl _))⟩
    exact ⟨Nat.zero_le _, _, .nil, IsTup.new _ _⟩
/-! ## list + list, lists of any kind -/
def rCatL (K : PySem.W.Frag) : R2 := fun x y H Q => ∃ l b xs zs, x = .ref l ∧ y = .ref b ∧ SqL K H l xs ∧ SqL K H b zs ∧ xs.length + zs.length ≤ sizeLine ∧ ∀ p, H p = none → Q (.ref p) (upd H p (.lst (xs ++ zs)))
theorem op_catL {X : Cx} : OpR X (binaryOp .Add) (rCatL X.K) := by
  intro pins s σ H x y v u Q I rx ry h
  obtain ⟨l, b, xs, zs, rfl, rfl, kH, kB, kz, qq⟩ := h
  cases rx
  cases ry
  obtain ⟨ms, r, ⟨⟨cls, dd, data, sl⟩, n, go, hc, hdn, hd⟩, _⟩ := I.list kH
  obtain ⟨ms2, r2, ⟨⟨cls2, dd2, data2, sl2⟩, n2, go2, hc2, hdn2, hd2⟩, _⟩ := I.list kB
  simp only at hc hd hc2 hd2
  subst hc hd hc2 hd2
  have l1 := r.length
  have l2 := r2.length
  have e : ms.toArray ++ ms2.toArray = (ms ++ ms2).toArray := by simp
  refine concat_meets ⟨_, go, rfl⟩ ⟨_, go2, rfl⟩ noFill_list_add seq_list_add PySem.F.slot_list_add PySem.F.entry_list_add (PySem.F.args_list_add_2 _ _) (list_addW l b ms.toArray ms2.toArray n n2 dd dd2 sl sl2 (by simp; omega)) ⟨go, go2, ?_⟩
  rw [e]
  exact ⟨.ref _, _, I.lnew (t' := s.toks) (r.append r2) (by rw [List.length_append]; omega), rfl, qq _ I.fresh⟩
/-! ## dicts of their own, keys texts -/
def dictAt (ks : List Str) (ws : List V) : List (Key × V) := mergeK [] ((ks.zip ws).map fun q => (.inr q.1, q.2))
/-- v is a dict of its own: at ks the data ds -/
def DV (K : PySem.W.Frag) (ks : List Str) (ds : List PyData) (v : V) (H : Hp) : Prop := ∃ p ws, v = .ref p ∧ H p = some (.dK (dictAt ks ws)) ∧ DpAll K H ws ds ∧ ks.length = ds.length
theorem dictAt_len (ks : List Str) (ws : List V) : (dictAt ks ws).length ≤ ks.length := by
  unfold dictAt
  have h := length_mergeK ((ks.zip ws).map fun q => ((.inr q.1, q.2) : Key × V)) []
  rw [List.length_map, List.length_zip] at h
  have h0 : ([] : List (Key × V)).length = 0 := rfl
  omega
theorem DV.up {K : PySem.W.Frag} {ks : List Str} {ds : List PyData} {v : V} {H H' : Hp} (h : DV K ks ds v H) (e : Up H H') (hl : ks.length < 4) : DV K ks ds v H' := by
  obtain ⟨p, ws, rfl, h1, h2, h3⟩ := h
  refine ⟨p, ws, rfl, e _ _ h1 (fun kvs z => ?_), dpa_up e _ _ h2, h3⟩
  cases z
  have := dictAt_len ks ws
  omega
theorem dpa_snd {K : PySem.W.Frag} {H : Hp} {ds : List PyData} {ws : List V} (h : DpAll K H ws ds) : ws.length = ds.length := dpa_len (vs := []) (ds := []) _ _ h
/-- where a key stands in such a dict -/
def KAt (ks : List Str) (s : Str) (o : Option Nat) : Prop := ∀ ws : List V, ws.length = ks.length → valV (dictAt ks ws) (.inr s) = o.bind fun j => ws[j]?
/-- lists and tuples stay -/
def UpS (K : PySem.W.Frag) (H H' : Hp) : Prop := (∀ a xs, SqL K H a xs → SqL K H' a xs) ∧ ∀ a xs, SqT K H a xs → SqT K H' a xs
section
variable {K : PySem.W.Frag} {H H' : Hp}
mutual
theorem dp_s (e : UpS K H H') : ∀ (d : PyData) (v : V), Dp K H v d → Dp K H' v d
  | .none, _, h => by
    cases h
    exact .non
  | .bool b, _, h => by
    cases h
    exact .bl b
  | .int i, _, h => by
    cases h
    exact .int i
  | .str x, _, h => by
    cases h
    exact .str x
  | .list ds, _, h => by
    cases h with
    | lst hs ha => exact .lst (e.1 _ _ hs) (dpa_s e ds _ ha)
  | .tuple ds, _, h => by
    cases h with
    | tup hs ha => exact .tup (e.2 _ _ hs) (dpa_s e ds _ ha)
  | .dict _, _, h => by cases h
theorem dpa_s (e : UpS K H H') : ∀ (ds : List PyData) (vs : List V), DpAll K H vs ds → DpAll K H' vs ds
  | [], _, h => by
    cases h
    exact .nil
  | d :: ds, _, h => by
    cases h with
    | cons h1 h2 => exact .cons (dp_s e d _ h1) (dpa_s e ds _ h2)
end
end
theorem upS_dk {K : PySem.W.Frag} {H : Hp} {p : Addr} {kvs kvs' : List (Key × V)} (h : H p = some (.dK kvs)) : UpS K H (upd H p (.dK kvs')) := by
  refine ⟨fun a xs q => ?_, fun a xs q => ?_⟩
  · rcases q with (q | ⟨o, q⟩) | q
    · exact .inl (.inl (by rw [upd_ne (ne_of q h (by intro z; cases z))]; exact q))
    · exact .inl (.inr ⟨o, by rw [upd_ne (ne_of q h (by intro z; cases z))]; exact q⟩)
    · exact .inr q
  · rcases q with (q | ⟨o, q⟩) | q
    · exact .inl (.inl (by rw [upd_ne (ne_of q h (by intro z; cases z))]; exact q))
    · exact .inl (.inr ⟨o, by rw [upd_ne (ne_of q h (by intro z; cases z))]; exact q⟩)
    · exact .inr q
theorem dpa_dk {K : PySem.W.Frag} {H : Hp} {p : Addr} {kvs kvs' : List (Key × V)} (h : H p = some (.dK kvs)) {ds : List PyData} {vs : List V} (q : DpAll K H vs ds) : DpAll K (upd H p (.dK kvs')) vs ds := dpa_s (upS_dk h) ds vs q
section
variable {ι : Type} {Y : ι → Cx} {P : Program} {w : World} {K : PySem.W.Frag} {mg : Str → Option Value} {base : Heap} {k k' : Nat} {σ : L2.St} {H H' : Hp} {a b c e elt src tg : Expr} {es : List Expr} {pos p p2 tp : Pos} {d d1 d2 : PyData} {ds ds1 ds2 rs : List PyData} {bs : List Bool} {x : Str} {b1 b2 : Bool} {D : Ends} {R : V → Hp → Prop} {scope : Scope} {rest body : List Stmt} {js : List Nat} {s z : Str} {y : Dx} {ys : List Dx} {ks zs : List Str} {j : Nat}
theorem fl_lst (h : XA Y K σ H es ys) (hy : isD ys = true := by rfl) (hl : Nat.ble (unD ys).length 16777216 = true := by rfl) : ER Y σ H (.List es pos) fun v H' => FL K H' v (unD ys) := by
  obtain ⟨t, ht, h⟩ := h
  refine ⟨tLst t, fun i => pe_lst (ht i), fun H1 e1 Q q => h H1 e1 _ fun vs H2 e2 h2 => ?_⟩
  rw [unD_eq hy] at h2
  have h3 := dpa_of h2
  refine ⟨by rw [dpa_len (vs := vs) (ds := []) _ _ h3, sizeLine_eq]; exact Nat.le_of_ble_eq_true hl, fun p hp => q _ _ (e2.trans (same_new hp)) ⟨p, vs, rfl, upd_same, dpa_up (up_of (same_new hp)) _ _ h3⟩⟩
theorem de_fl (h : ER Y σ H e fun v H' => FL K H' v ds) : DE Y K σ H e (.list ds) := by
  obtain ⟨t, ht, h⟩ := h
  exact ⟨t, ht, fun H1 e1 Q q => h H1 e1 Q fun v H2 e2 h2 => q v H2 e2 h2.dp⟩
theorem fl_v (j : Nat) {v : V} (h : FL K H v ds) (hs : σ[j]? = some (some v) := by rfl) (hN : ∀ i, (Y i).N[j]? = some x := by intro _; rfl)
    (hv : ∀ i, Vis (Y i).env.scope x := by intro _; first | exact Or.inl rfl | exact Or.inr (Or.inl rfl) | exact Or.inr (Or.inr rfl)) (hd : (x == ("__debug__" : Str)) = false := by decide) (hcd : (x == ("__classdict__" : Str)) = false := by decide) :
    ER Y σ H (.Name x pos) fun v H' => FL K H' v ds := er_v j (fun H1 e1 => h.up e1) hs hN hv hd hcd
/-- list + list -/
theorem fl_cat (F : Fm P w K mg base k Y) (ha : DE Y K σ H a (.list ds1)) (hb : DE Y K σ H b (.list ds2)) (hz : Nat.ble (ds1.length + ds2.length) 16777216 = true := by rfl) : ER Y σ H (.BinOp a .Add b pos) fun v H' => FL K H' v (ds1 ++ ds2) := by
  obtain ⟨t1, h1, q1⟩ := ha
  obtain ⟨t2, h2, q2⟩ := hb
  refine ⟨tOp (rCatL K) t1 t2, fun i => pe_op (by
    have q := op_catL (X := Y i)
    rw [F.hK i] at q
    exact q) (h1 i) (h2 i), fun H1 e1 Q q => q1 H1 e1 _ fun v H2 e2 hv => q2 H2 (e1.trans (up_of e2)) _ fun u H3 e3 hu => ?_⟩
  cases dp_up (up_of e3) _ _ hv with
  | lst hp hx =>
    cases hu with
    | lst hp' hx' =>
      refine ⟨_, _, _, _, rfl, rfl, hp, hp', by rw [dpa_snd hx, dpa_snd hx', sizeLine_eq]; exact Nat.le_of_ble_eq_true hz, fun z hz => q _ _ ((e2.trans e3).trans (same_new hz)) ⟨z, _, rfl, upd_same, dpa_up (up_of (same_new hz)) _ _ (dpa_app hx hx')⟩⟩
/-- a tuple times 0 or 1 -/
theorem de_rep01 {n : Int} (F : Fm P w K mg base k Y) (ha : DE Y K σ H a (.tuple (d :: ds))) (hb : DE Y K σ H b (.int n)) (hn : n = 0 ∨ n = 1) : DE Y K σ H (.BinOp a .Mult b pos) (.tuple (if n = 1 then d :: ds else [])) := by
  obtain ⟨t1, h1, q1⟩ := ha
  obtain ⟨t2, h2, q2⟩ := hb
  refine ⟨tOp (rRep01 K) t1 t2, fun i => pe_op (by
    have q := op_rep01 (X := Y i)
    rw [F.hK i] at q
    exact q) (h1 i) (h2 i), fun H1 e1 Q q => q1 H1 e1 _ fun v H2 e2 hv => q2 H2 (e1.trans (up_of e2)) _ fun u H3 e3 hu => ?_⟩
  cases hu
  cases dp_up (up_of e3) _ _ hv with
  | tup ht hx =>
    refine ⟨_, n, _, rfl, rfl, ht, (fun z => by
      subst z
      cases hx), ?_⟩
    rcases hn with rfl | rfl
    · exact .inr ⟨rfl, fun p hp => q _ _ ((e2.trans e3).trans (same_new hp)) (.tup (SqT.of upd_same) .nil)⟩
    · exact .inl ⟨rfl, q _ H3 (e2.trans e3) (.tup ht hx)⟩
/-- list.index of texts -/
theorem de_indexL {apos cpos : Pos} (F : Fm P w K mg base k Y) (ha : DE Y K σ H a (.list (zs.map .str))) (hb : DE Y K σ H b (.str z)) (hj : zs[j]? = some z) (hno : ∀ m, m < j → zs[m]? ≠ some z)
    (hbase : ∀ i, attributeBase a "index" (Y i).env (eval a (Y i).env) = eval a (Y i).env := by intro _; rfl)
    (hfew : ∀ i, ((backTo cpos (starEach [b] (Y i).env)).all (fun x => !x.1) && (backToKw cpos (keywordEach [] (Y i).env)).all (fun x => x.1.isSome)
      && decide (([b] : List Expr).length + ([] : List Keyword).length + (if ([] : List Keyword).isEmpty then 0 else 1) < 30)) = true := by intro _; rfl)
    (hline : (apos.endLine == cpos.line) = true := by rfl) (hs : ∀ i, starEach [b] (Y i).env = (false, eval b (Y i).env) :: starEach [] (Y i).env := by intro _; rfl) (hplain : ∀ i, (backTo cpos (starEach [] (Y i).env)).any (·.1) = false := by intro _; rfl) :
    DE Y K σ H (.Call (.Attribute a "index" apos) [b] [] cpos) (.int (j : Nat)) := by
  obtain ⟨t1, h1, q1⟩ := ha
  obtain ⟨t2, h2, q2⟩ := xa_d hb xa_nil hs
  refine ⟨tBM K "list" (rIndex K) t1 t2, fun i => ?_, fun H1 e1 Q q => q1 H1 e1 _ fun v H2 e2 hv => ?_⟩
  · have m := mt_index (X := Y i)
    rw [F.hK i] at m
    have z := pe_bm (X := Y i) (apos := apos) (cpos := cpos) (T := "list") PySem.F.plainAttrs_list PySem.F.slot_list_index PySem.F.type_list_index m (h1 i) (h2 i) (hbase i) (hfew i) hline (hs i) (hplain i)
    rw [F.hK i] at z
    exact z
  · have eqs : ∀ x y : Str, eqV (.str x) (.str y) = decide (x = y) := fun x y => by
      show (x == y) = decide (x = y)
      by_cases e : x = y
      · subst e
        simp
      · rw [decide_eq_false e]
        exact beq_eq_false_iff_ne.mpr e
    cases hv with
    | lst hq hx =>
      have hq0 := hq
      rw [dpa_strs hx] at hq
      refine ⟨.inl ⟨rfl, _, hq⟩, q2 H2 (e1.trans (up_of e2)) _ fun vs H3 e3 hvs => ?_⟩
      obtain ⟨u, rfl, hu⟩ := vxs1 hvs
      cases hu
      refine ⟨_, zs.map V.str, .str z, j, .str z, rfl, rfl, up_l (up_of e3) hq, rfl, ?_, by rw [List.getElem?_map, hj] <;> rfl, by rw [eqs]; simp, fun m z' hm hz' => ?_, q _ H3 (e2.trans e3) (.int _)⟩
      · rw [List.all_map]
        exact List.all_eq_true.mpr fun _ _ => rfl
      · rw [List.getElem?_map] at hz'
        cases q : zs[m]? with
        | none =>
          rw [q] at hz'
          cases hz'
        | some y =>
          rw [q] at hz'
          have := Option.some.inj hz'
          subst this
          rw [eqs]
          exact decide_eq_false fun e => hno m hm (by rw [q, e])
/-! ### displays of dicts -/
def PD {ι : Type} (Y : ι → Cx) (K : PySem.W.Frag) (σ : L2.St) (H : Hp) (pos : Pos) (keys : List (Option Expr)) (values : List Expr) (ks : List Str) (ds : List PyData) : Prop :=
  ∃ trs : List (TE × TE), (∀ i, PPs (Y i) pos keys values trs) ∧ ∀ H1, Up H H1 → ∀ Q : List (V × V) → Hp → Prop, (∀ ws H2, Same H1 H2 → DpAll K H2 ws ds → Q ((ks.zip ws).map fun q => (.str q.1, q.2)) H2) → tPairs trs σ H1 Q
theorem pd_nil : PD Y K σ H pos [] [] [] [] := ⟨[], fun _ => pps_nil, fun H1 _ Q q => q [] H1 (Same.refl _) .nil⟩
theorem pd_cons {kj : Nat} {kp : Pos} {keys : List (Option Expr)} {values : List Expr} (hv : DE Y K σ H e d) (r : PD Y K σ H pos keys values ks ds) : PD Y K σ H pos (some (.Constant (.str s) kj kp) :: keys) (e :: values) (s :: ks) (d :: ds) := by
  obtain ⟨t, ht, h⟩ := hv
  obtain ⟨trs, hr, r⟩ := r
  refine ⟨(_, t) :: trs, fun i => pps_cons pe_str (ht i) (hr i), fun H1 e1 Q q => ?_⟩
  refine h H1 e1 _ fun v H2 e2 h2 => r H2 (e1.trans (up_of e2)) _ fun ws H3 e3 h3 => ?_
  exact q (v :: ws) H3 (e2.trans e3) (.cons (dp_up (up_of e3) _ _ h2) h3)
theorem er_disp {keys : List (Option Expr)} {values : List Expr} (h : PD Y K σ H pos keys values ks ds) (hk : ks.length = ds.length := by rfl) (hall : keys.all (·.isSome) = true := by rfl) (hl : keys.length = values.length := by rfl) (h0 : keys ≠ [] := by intro z; cases z) (h15 : keys.length ≤ 15 := by decide) (hk15 : ks.length ≤ 15 := by decide) :
    ER Y σ H (.Dict keys values pos) (DV K ks ds) := by
  obtain ⟨trs, ht, h⟩ := h
  refine ⟨tDisp trs, fun i => pe_disp (ht i) hall hl h0 h15, fun H1 e1 Q q p hp => ?_⟩
  refine h _ (e1.trans (up_of (same_new hp))) _ fun ws H2 e2 hw => ?_
  have hpp : H2 p = some (.dK []) := e2 _ _ upd_same
  refine ⟨hpp, (ks.zip ws).map fun q => (.inr q.1, q.2), by rw [List.map_map] <;> rfl, by rw [List.length_map, List.length_zip]; omega, ?_⟩
  have eS : Same H1 (upd H2 p (.dK (mergeK [] ((ks.zip ws).map fun q => (.inr q.1, q.2))))) := fun a o ho => by
    rw [upd_ne (ne_of_none ho hp)]
    exact e2 a o (by rw [upd_ne (ne_of_none ho hp)]; exact ho)
  refine q _ _ eS ⟨p, ws, rfl, upd_same, ?_, hk⟩
  exact dpa_dk hpp hw
/-- D[k] -/
theorem de_dv_at (F : Fm P w K mg base k Y) (ha : ER Y σ H a (DV K ks ds)) (hb : DE Y K σ H b (.str s)) (j : Nat) (hk : KAt ks s (some j)) (hd : ds[j]? = some d) (hs : NoSl b := by exact fun _ _ => rfl) : DE Y K σ H (.Subscript a b pos) d := by
  obtain ⟨t1, h1, q1⟩ := ha
  obtain ⟨t2, h2, q2⟩ := hb
  refine ⟨tDGet t1 t2, fun i => pe_dget (by have := rm64 (F.rm i); omega) (h1 i) (h2 i) hs, fun H1 e1 Q q => q1 H1 e1 _ fun v H2 e2 hv => q2 H2 (e1.trans (up_of e2)) _ fun u H3 e3 hu => ?_⟩
  obtain ⟨p, ws, rfl, hp, hw, hl⟩ := hv
  cases hu
  have hw3 := dpa_up (up_of e3) _ _ hw
  obtain ⟨v, hv1, hv2⟩ := dpa_get _ _ _ _ hw3 hd
  have e := hk ws (by rw [dpa_snd hw, hl])
  have e2' : valV (dictAt ks ws) (.inr s) = some v := by
    rw [e]
    exact hv1
  refine ⟨p, v, rfl, ?_, q v H3 (e2.trans e3) hv2⟩
  rw [← e2']
  exact DGet.k (k := .inr s) (e3 _ _ hp)
/-- D.get(k, x) -/
theorem de_dv_get {apos cpos : Pos} (o : Option Nat) (F : Fm P w K mg base k Y) (ha : ER Y σ H a (DV K ks ds)) (hb : DE Y K σ H b (.str s)) (hc : DE Y K σ H c d1) (hk : KAt ks s o) (hd : (o = none ∧ d = d1) ∨ ∃ j, o = some j ∧ ds[j]? = some d)
    (h1' : ∀ i, attributeBase a "get" (Y i).env (eval a (Y i).env) = eval a (Y i).env := by intro _; rfl)
    (h2' : ∀ i, ((backTo cpos (starEach [b, c] (Y i).env)).all (fun x => !x.1) && (backToKw cpos (keywordEach [] (Y i).env)).all (fun x => x.1.isSome) && decide (([b, c] : List Expr).length + ([] : List Keyword).length + (if ([] : List Keyword).isEmpty then 0 else 1) < 30)) = true := by intro _; rfl)
    (h3' : (apos.endLine == cpos.line) = true := by rfl) (h4' : ∀ i, backTo cpos (starEach [b, c] (Y i).env) = [(false, eval b (Y i).env), (false, eval c (Y i).env)] := by intro _; rfl) :
    DE Y K σ H (.Call (.Attribute a "get" apos) [b, c] [] cpos) d := by
  obtain ⟨t1, h1, q1⟩ := ha
  obtain ⟨t2, h2, q2⟩ := hb
  obtain ⟨t3, h3, q3⟩ := hc
  refine ⟨tDGet2 t1 t2 t3, fun i => pe_dget2 (by have := rm64 (F.rm i); omega) (h1 i) (h2 i) (h3 i) ⟨h1' i, h2' i, h3', h4' i⟩, fun H1 e1 Q q => q1 H1 e1 _ fun v H2 e2 hv => ?_⟩
  obtain ⟨p, ws, rfl, hp, hw, hl⟩ := hv
  refine ⟨p, rfl, .inl ⟨_, .inl hp⟩, q2 H2 (e1.trans (up_of e2)) _ fun u H3 e3 hu => q3 H3 ((e1.trans (up_of e2)).trans (up_of e3)) _ fun z H4 e4 hz => ?_⟩
  cases hu
  have e := hk ws (by rw [dpa_snd hw, hl])
  refine ⟨_, DGet.k (k := .inr s) (e4 _ _ (e3 _ _ hp)), ?_⟩
  rw [e]
  rcases hd with ⟨rfl, rfl⟩ | ⟨j, rfl, hd⟩
  · exact q z H4 ((e2.trans e3).trans e4) hz
  · obtain ⟨v, hv1, hv2⟩ := dpa_get _ _ _ _ (dpa_up (up_of (e3.trans e4)) _ _ hw) hd
    rw [show (some j).bind (fun j => ws[j]?) = some v from hv1]
    exact q v H4 ((e2.trans e3).trans e4) hv2
/-- a local dict -/
theorem dv_v (j : Nat) {v : V} (h : DV K ks ds v H) (hl : ks.length < 4 := by decide) (hs : σ[j]? = some (some v) := by rfl) (hN : ∀ i, (Y i).N[j]? = some x := by intro _; rfl)
    (hv : ∀ i, Vis (Y i).env.scope x := by intro _; first | exact Or.inl rfl | exact Or.inr (Or.inl rfl) | exact Or.inr (Or.inr rfl)) (hd : (x == ("__debug__" : Str)) = false := by decide) (hcd : (x == ("__classdict__" : Str)) = false := by decide) :
    ER Y σ H (.Name x pos) (DV K ks ds) := er_v j (fun H1 e1 => h.up e1 hl) hs hN hv hd hcd
/-- repr(a truth value) -/
theorem de_reprB (F : Fm P w K mg base k Y) (g : mg "repr" = none) (ha : DE Y K σ H a (.bool b1)) (hg : ∀ i, Gl (Y i) "repr" := by intro _; rfl)
    (he : ∀ i, starEach [a] (Y i).env = (false, eval a (Y i).env) :: starEach [] (Y i).env := by intro _; rfl) (hpl : ∀ i, (backTo pos (starEach [] (Y i).env)).any (·.1) = false := by intro _; rfl) : DE Y K σ H (.Call (.Name "repr" p) [a] [] pos) (.str (if b1 = true then "True" else "False")) := by
  refine de_blt (id := "repr") F (r := fun xs H Q => ∃ b, xs = [.bl b] ∧ Q (.str (if b = true then "True" else "False")) H) (fun i => ?_) g (by decide +kernel) (xa_d ha xa_nil he) (fun vs H1 _ hv Q q => ?_) hg (by decide) (by decide) he hpl
  · intro pins s σ H xs us Q I r h
    obtain ⟨b, rfl, q⟩ := h
    cases r with
    | cons r1 rs =>
      cases rs
      cases r1
      exact PySem.P.repr_of_bool ⟨.str (if b = true then "True" else "False"), H, I.tok _, ⟨_, rfl⟩, q⟩
  · obtain ⟨v, rfl, hv1⟩ := vxs1 hv
    cases hv1
    exact ⟨b1, rfl, q _ H1 (Same.refl _) (.str _)⟩
end
end PK
namespace PK
open L2 PySem PySem.Spec PyProof.Rows
/-! ### data of the written part -/
mutual
def kdB (K : PySem.W.Frag) : PyData → Value → Bool
  | .none, u => (match u with
    | .none => true
    | _ => false)
  | .bool b, u => (match u with
    | .bool c => b == c
    | _ => false)
  | .int i, u => (match u with
    | .int j _ => decide (i = j)
    | _ => false)
  | .str x, u => (match u with
    | .str y _ => decide (x = y)
    | _ => false)
  | .tuple ds, u => (match u with
    | .ref a => (match K.lookup a with
      | some ⟨.type c, _, .seq its _, _⟩ => decide (c = "tuple") && (decide (its.size ≤ sizeLine) && kdAll K ds its.toList)
      | _ => false)
    | _ => false)
  | .list _, _ => false
  | .dict _, _ => false
def kdAll (K : PySem.W.Frag) : List PyData → List Value → Bool
  | [], us => us.isEmpty
  | d :: ds, us => (match us with
    | u :: r => kdB K d u && kdAll K ds r
    | [] => false)
end
/-- the module's name x stands for the data d -/
def gdB (K : PySem.W.Frag) (x : Str) (d : PyData) : Bool := match PySem.W.nsIn K mainGlobals x with
  | some (some u) => kdB K d u
  | _ => false
/-- the table of the module's name x holds d at the key k -/
def tdB (K : PySem.W.Frag) (x k : Str) (d : PyData) : Bool := match PySem.W.nsIn K (He.ga K x) k with
  | some (some u) => kdB K d u
  | _ => false
/-- the table of the module's name x lacks the key k -/
def tnB (K : PySem.W.Frag) (x k : Str) : Bool := He.eqO (PySem.W.nsIn K (He.ga K x) k) (some none)
/-- the table of the module's name x holds a written tuple at the key k, nothing hangs on it -/
def twB (K : PySem.W.Frag) (x k : Str) : Bool := match PySem.W.nsIn K (He.ga K x) k with
  | some (some (.ref a)) => (match K.lookup a with
    | some ⟨.type c, none, _, _⟩ => decide (c = "tuple")
    | _ => false)
  | _ => false
theorem twB_ok {K : PySem.W.Frag} {x k : Str} (h : twB K x k = true) : TW K x k := by
  intro u v e r
  unfold twB at h
  rw [e] at h
  cases u with
  | ref a =>
    have hv : v = .ref a := by
      cases v with
      | ref p =>
        cases r
        rfl
      | int i =>
        obtain ⟨t, r⟩ := r
        cases r
      | str i =>
        obtain ⟨t, r⟩ := r
        cases r
      | byt i =>
        obtain ⟨t, r⟩ := r
        cases r
      | flt i =>
        obtain ⟨t, r⟩ := r
        cases r
      | _ => cases r
    subst hv
    have h1 : (match K.lookup a with
      | some ⟨.type c, none, _, _⟩ => decide (c = "tuple")
      | _ => false) = true := h
    cases q : K.lookup a with
    | none =>
      rw [q] at h1
      cases h1
    | some o =>
      obtain ⟨oc, od, dt, osl⟩ := o
      rw [q] at h1
      cases oc with
      | type c =>
        cases od with
        | none => exact ⟨a, _, rfl, q, congrArg Value.type (of_decide_eq_true h1), rfl⟩
        | some _ => cases h1
      | _ => cases od <;> cases h1
  | _ => cases h
section
variable {K : PySem.W.Frag}
mutual
theorem kdB_ok : ∀ (d : PyData) (u : Value), kdB K d u = true → ∃ v, RelV v u ∧ ∀ H : Hp, Dp K H v d
  | .none, u, h => by
    cases u with
    | none => exact ⟨.non, rfl, fun _ => .non⟩
    | _ => cases h
  | .bool b, u, h => by
    cases u with
    | bool c =>
      have e : b = c := eq_of_beq (show (b == c) = true from h)
      subst e
      exact ⟨.bl b, rfl, fun _ => .bl b⟩
    | _ => cases h
  | .int i, u, h => by
    cases u with
    | int j t =>
      have e : i = j := of_decide_eq_true h
      subst e
      exact ⟨.int i, ⟨t, rfl⟩, fun _ => .int i⟩
    | _ => cases h
  | .str x, u, h => by
    cases u with
    | str z t =>
      have e : x = z := of_decide_eq_true h
      subst e
      exact ⟨.str x, ⟨t, rfl⟩, fun _ => .str x⟩
    | _ => cases h
  | .tuple ds, u, h => by
    cases u with
    | ref a =>
      have h1 : (match K.lookup a with
        | some ⟨.type c, _, .seq its _, _⟩ => decide (c = "tuple") && (decide (its.size ≤ sizeLine) && kdAll K ds its.toList)
        | _ => false) = true := by
        unfold kdB at h
        exact h
      cases q : K.lookup a with
      | none =>
        rw [q] at h1
        cases h1
      | some o =>
        obtain ⟨oc, od, dt, osl⟩ := o
        rw [q] at h1
        cases oc with
        | type c =>
          cases dt with
          | seq its n =>
            obtain ⟨h2, h3⟩ := He.ba (show (decide (c = "tuple") && (decide (its.size ≤ sizeLine) && kdAll K ds its.toList)) = true from h1)
            obtain ⟨h4, h5⟩ := He.ba h3
            obtain ⟨vs, r, g⟩ := kdAll_ok ds its.toList h5
            exact ⟨.ref a, rfl, fun H => .tup (.inr ⟨_, its, n, q, congrArg Value.type (of_decide_eq_true h2), rfl, of_decide_eq_true h4, r⟩) (g H)⟩
          | _ => cases h1
        | _ => cases dt <;> cases h1
    | _ => 
      unfold kdB at h
      cases h
  | .list _, u, h => by
    unfold kdB at h
    cases h
  | .dict _, u, h => by
    unfold kdB at h
    cases h
theorem kdAll_ok : ∀ (ds : List PyData) (us : List Value), kdAll K ds us = true → ∃ vs, Vals vs us ∧ ∀ H : Hp, DpAll K H vs ds
  | [], us, h => by
    cases us with
    | nil => exact ⟨[], .nil, fun _ => .nil⟩
    | cons _ _ =>
      unfold kdAll at h
      cases h
  | d :: ds, us, h => by
    cases us with
    | nil =>
      unfold kdAll at h
      cases h
    | cons u us =>
      have h1 : (kdB K d u && kdAll K ds us) = true := by
        unfold kdAll at h
        exact h
      obtain ⟨h2, h3⟩ := He.ba h1
      obtain ⟨v, r1, g1⟩ := kdB_ok d u h2
      obtain ⟨vs, r2, g2⟩ := kdAll_ok ds us h3
      exact ⟨v :: vs, .cons r1 r2, fun H => .cons (g1 H) (g2 H)⟩
end
end
/-! ### the text by places -/
abbrev Pr : Program := PySem.Challenge.pw_putonlyif_k22_whole_steps_of_any_state
def top (i : Nat) : Stmt := Pr.main.body.getD i (.Pass ⟨0, 0, 0, 0⟩)
abbrev s_is_one_of : Stmt := top 26
abbrev s_is_there : Stmt := top 27
abbrev s_are_bits : Stmt := top 28
abbrev s_is_copy : Stmt := top 29
abbrev s_need_server : Stmt := top 30
abbrev s_server_after : Stmt := top 31
abbrev s_copy_after : Stmt := top 32
abbrev s_matches : Stmt := top 50
abbrev s_is_left_out : Stmt := top 51
abbrev s_read_by : Stmt := top 52
abbrev s_does_hold : Stmt := top 53
abbrev s_put_by : Stmt := top 54
abbrev s_take_by : Stmt := top 55
abbrev s_is_number : Stmt := top 67
abbrev s_is_step : Stmt := top 68
abbrev s_next_behind : Stmt := top 70
abbrev s_need_others : Stmt := top 85
abbrev s_need_net : Stmt := top 86
abbrev s_first_of : Stmt := top 87
abbrev s_is_late : Stmt := top 88
abbrev s_is_state : Stmt := top 89
abbrev s_need_state : Stmt := top 90
abbrev s_answer_to : Stmt := top 91
abbrev s_act_of : Stmt := top 92
abbrev s_is_done_by : Stmt := top 93
abbrev s_can_happen : Stmt := top 94
abbrev s_late_after : Stmt := top 95
abbrev s_acted : Stmt := top 96
abbrev s_ticked : Stmt := top 97
abbrev s_at_step : Stmt := top 98
abbrev s_seen_now : Stmt := top 99
abbrev s_answered : Stmt := top 100
abbrev s_sent_now : Stmt := top 101
abbrev s_unheard : Stmt := top 102
abbrev s_unsent : Stmt := top 103
abbrev s_come : Stmt := top 104
abbrev s_stepped : Stmt := top 105
abbrev s_events_in : Stmt := top 106
abbrev s_events_of : Stmt := top 107
abbrev s_step : Stmt := top 108
abbrev s_walked : Stmt := top 109
abbrev s_is_fault_in : Stmt := top 110
abbrev s_need_promise : Stmt := top 114
abbrev s_is_fault : Stmt := top 115
abbrev s_law_begun : Stmt := top 117
abbrev s_law_draw : Stmt := top 118
abbrev s_law_of : Stmt := top 119
abbrev s_law_conditions : Stmt := top 120
abbrev s_law_any_step : Stmt := top 121
abbrev s_law_any_steps : Stmt := top 122
abbrev s_law_any_others : Stmt := top 123
abbrev s_law_next_step : Stmt := top 124
abbrev s_law_act_of : Stmt := top 125
abbrev s_law_error_word : Stmt := top 126
abbrev s_law_told : Stmt := top 127
abbrev s_law_standings_at : Stmt := top 128
abbrev s_law_any_state : Stmt := top 129
abbrev s_law_copy_on : Stmt := top 130
abbrev s_law_passes : Stmt := top 131
abbrev s_law_writes : Stmt := top 132
abbrev s_law_may : Stmt := top 133
abbrev s_law_behind_act : Stmt := top 134
abbrev s_law_behind_answer : Stmt := top 135
abbrev s_law_behind : Stmt := top 136
abbrev s_law_own_fault : Stmt := top 137
abbrev s_law_faults_right : Stmt := top 138
abbrev s_law : Stmt := top 139
abbrev sC_Script_init : Stmt := inClass (top 69) 0
abbrev sC_Script_getitem : Stmt := inClass (top 69) 3
abbrev sC_BadNumber_init : Stmt := inClass (top 13) 0
/-! ### facts -/
def d_is_one_of : He.DefD := ⟨("is_one_of", none), "is_one_of", "is_one_of", defArgs s_is_one_of, defBody s_is_one_of, defScope s_is_one_of, [], []⟩
def d_is_there : He.DefD := ⟨("is_there", none), "is_there", "is_there", defArgs s_is_there, defBody s_is_there, defScope s_is_there, [], []⟩
def d_are_bits : He.DefD := ⟨("are_bits", none), "are_bits", "are_bits", defArgs s_are_bits, defBody s_are_bits, defScope s_are_bits, [], []⟩
def d_is_copy : He.DefD := ⟨("is_copy", none), "is_copy", "is_copy", defArgs s_is_copy, defBody s_is_copy, defScope s_is_copy, [], []⟩
def d_need_server : He.DefD := ⟨("need_server", none), "need_server", "need_server", defArgs s_need_server, defBody s_need_server, defScope s_need_server, [], []⟩
def d_server_after : He.DefD := ⟨("server_after", none), "server_after", "server_after", defArgs s_server_after, defBody s_server_after, defScope s_server_after, [], []⟩
def d_copy_after : He.DefD := ⟨("copy_after", none), "copy_after", "copy_after", defArgs s_copy_after, defBody s_copy_after, defScope s_copy_after, [], []⟩
def d_matches : He.DefD := ⟨("matches", none), "matches", "matches", defArgs s_matches, defBody s_matches, defScope s_matches, [], []⟩
def d_is_left_out : He.DefD := ⟨("is_left_out", none), "is_left_out", "is_left_out", defArgs s_is_left_out, defBody s_is_left_out, defScope s_is_left_out, [], []⟩
def d_read_by : He.DefD := ⟨("read_by", none), "read_by", "read_by", defArgs s_read_by, defBody s_read_by, defScope s_read_by, [], []⟩
def d_does_hold : He.DefD := ⟨("does_hold", none), "does_hold", "does_hold", defArgs s_does_hold, defBody s_does_hold, defScope s_does_hold, [], []⟩
def d_put_by : He.DefD := ⟨("put_by", none), "put_by", "put_by", defArgs s_put_by, defBody s_put_by, defScope s_put_by, [], []⟩
def d_take_by : He.DefD := ⟨("take_by", none), "take_by", "take_by", defArgs s_take_by, defBody s_take_by, defScope s_take_by, [], []⟩
def d_is_number : He.DefD := ⟨("is_number", none), "is_number", "is_number", defArgs s_is_number, defBody s_is_number, defScope s_is_number, [], []⟩
def d_is_step : He.DefD := ⟨("is_step", none), "is_step", "is_step", defArgs s_is_step, defBody s_is_step, defScope s_is_step, [], []⟩
def d_next_behind : He.DefD := ⟨("next_behind", none), "next_behind", "next_behind", defArgs s_next_behind, defBody s_next_behind, defScope s_next_behind, [], []⟩
def d_need_others : He.DefD := ⟨("need_others", none), "need_others", "need_others", defArgs s_need_others, defBody s_need_others, defScope s_need_others, [], []⟩
def d_need_net : He.DefD := ⟨("need_net", none), "need_net", "need_net", defArgs s_need_net, defBody s_need_net, defScope s_need_net, [], []⟩
def d_first_of : He.DefD := ⟨("first_of", none), "first_of", "first_of", defArgs s_first_of, defBody s_first_of, defScope s_first_of, [], []⟩
def d_is_late : He.DefD := ⟨("is_late", none), "is_late", "is_late", defArgs s_is_late, defBody s_is_late, defScope s_is_late, [], []⟩
def d_is_state : He.DefD := ⟨("is_state", none), "is_state", "is_state", defArgs s_is_state, defBody s_is_state, defScope s_is_state, [], []⟩
def d_need_state : He.DefD := ⟨("need_state", none), "need_state", "need_state", defArgs s_need_state, defBody s_need_state, defScope s_need_state, [], []⟩
def d_answer_to : He.DefD := ⟨("answer_to", none), "answer_to", "answer_to", defArgs s_answer_to, defBody s_answer_to, defScope s_answer_to, [], []⟩
def d_act_of : He.DefD := ⟨("act_of", none), "act_of", "act_of", defArgs s_act_of, defBody s_act_of, defScope s_act_of, [], []⟩
def d_is_done_by : He.DefD := ⟨("is_done_by", none), "is_done_by", "is_done_by", defArgs s_is_done_by, defBody s_is_done_by, defScope s_is_done_by, [], []⟩
def d_can_happen : He.DefD := ⟨("can_happen", none), "can_happen", "can_happen", defArgs s_can_happen, defBody s_can_happen, defScope s_can_happen, [], []⟩
def d_late_after : He.DefD := ⟨("late_after", none), "late_after", "late_after", defArgs s_late_after, defBody s_late_after, defScope s_late_after, [], []⟩
def d_acted : He.DefD := ⟨("acted", none), "acted", "acted", defArgs s_acted, defBody s_acted, defScope s_acted, [], []⟩
def d_ticked : He.DefD := ⟨("ticked", none), "ticked", "ticked", defArgs s_ticked, defBody s_ticked, defScope s_ticked, [], []⟩
def d_at_step : He.DefD := ⟨("at_step", none), "at_step", "at_step", defArgs s_at_step, defBody s_at_step, defScope s_at_step, [], []⟩
def d_seen_now : He.DefD := ⟨("seen_now", none), "seen_now", "seen_now", defArgs s_seen_now, defBody s_seen_now, defScope s_seen_now, [], []⟩
def d_answered : He.DefD := ⟨("answered", none), "answered", "answered", defArgs s_answered, defBody s_answered, defScope s_answered, [], []⟩
def d_sent_now : He.DefD := ⟨("sent_now", none), "sent_now", "sent_now", defArgs s_sent_now, defBody s_sent_now, defScope s_sent_now, [], []⟩
def d_unheard : He.DefD := ⟨("unheard", none), "unheard", "unheard", defArgs s_unheard, defBody s_unheard, defScope s_unheard, [], []⟩
def d_unsent : He.DefD := ⟨("unsent", none), "unsent", "unsent", defArgs s_unsent, defBody s_unsent, defScope s_unsent, [], []⟩
def d_come : He.DefD := ⟨("come", none), "come", "come", defArgs s_come, defBody s_come, defScope s_come, [], []⟩
def d_stepped : He.DefD := ⟨("stepped", none), "stepped", "stepped", defArgs s_stepped, defBody s_stepped, defScope s_stepped, [], []⟩
def d_events_in : He.DefD := ⟨("events_in", none), "events_in", "events_in", defArgs s_events_in, defBody s_events_in, defScope s_events_in, [], []⟩
def d_events_of : He.DefD := ⟨("events_of", none), "events_of", "events_of", defArgs s_events_of, defBody s_events_of, defScope s_events_of, [], []⟩
def d_step : He.DefD := ⟨("step", none), "step", "step", defArgs s_step, defBody s_step, defScope s_step, [], []⟩
def d_walked : He.DefD := ⟨("walked", none), "walked", "walked", defArgs s_walked, defBody s_walked, defScope s_walked, [], []⟩
def d_is_fault_in : He.DefD := ⟨("is_fault_in", none), "is_fault_in", "is_fault_in", defArgs s_is_fault_in, defBody s_is_fault_in, defScope s_is_fault_in, [], []⟩
def d_need_promise : He.DefD := ⟨("need_promise", none), "need_promise", "need_promise", defArgs s_need_promise, defBody s_need_promise, defScope s_need_promise, [], []⟩
def d_is_fault : He.DefD := ⟨("is_fault", none), "is_fault", "is_fault", defArgs s_is_fault, defBody s_is_fault, defScope s_is_fault, [], []⟩
def d_law_begun : He.DefD := ⟨("_law_begun", none), "_law_begun", "_law_begun", defArgs s_law_begun, defBody s_law_begun, defScope s_law_begun, [], []⟩
def d_law_draw : He.DefD := ⟨("_law_draw", none), "_law_draw", "_law_draw", defArgs s_law_draw, defBody s_law_draw, defScope s_law_draw, [], []⟩
def d_law_of : He.DefD := ⟨("_law_of", none), "_law_of", "_law_of", defArgs s_law_of, defBody s_law_of, defScope s_law_of, [], []⟩
def d_law_conditions : He.DefD := ⟨("_law_conditions", none), "_law_conditions", "_law_conditions", defArgs s_law_conditions, defBody s_law_conditions, defScope s_law_conditions, [], []⟩
def d_law_any_step : He.DefD := ⟨("_law_any_step", none), "_law_any_step", "_law_any_step", defArgs s_law_any_step, defBody s_law_any_step, defScope s_law_any_step, [], []⟩
def d_law_any_steps : He.DefD := ⟨("_law_any_steps", none), "_law_any_steps", "_law_any_steps", defArgs s_law_any_steps, defBody s_law_any_steps, defScope s_law_any_steps, [], []⟩
def d_law_any_others : He.DefD := ⟨("_law_any_others", none), "_law_any_others", "_law_any_others", defArgs s_law_any_others, defBody s_law_any_others, defScope s_law_any_others, [], []⟩
def d_law_next_step : He.DefD := ⟨("_law_next_step", none), "_law_next_step", "_law_next_step", defArgs s_law_next_step, defBody s_law_next_step, defScope s_law_next_step, [], []⟩
def d_law_act_of : He.DefD := ⟨("_law_act_of", none), "_law_act_of", "_law_act_of", defArgs s_law_act_of, defBody s_law_act_of, defScope s_law_act_of, [], []⟩
def d_law_error_word : He.DefD := ⟨("_law_error_word", none), "_law_error_word", "_law_error_word", defArgs s_law_error_word, defBody s_law_error_word, defScope s_law_error_word, [], []⟩
def d_law_told : He.DefD := ⟨("_law_told", none), "_law_told", "_law_told", defArgs s_law_told, defBody s_law_told, defScope s_law_told, [], []⟩
def d_law_standings_at : He.DefD := ⟨("_law_standings_at", none), "_law_standings_at", "_law_standings_at", defArgs s_law_standings_at, defBody s_law_standings_at, defScope s_law_standings_at, [], []⟩
def d_law_any_state : He.DefD := ⟨("_law_any_state", none), "_law_any_state", "_law_any_state", defArgs s_law_any_state, defBody s_law_any_state, defScope s_law_any_state, [], []⟩
def d_law_copy_on : He.DefD := ⟨("_law_copy_on", none), "_law_copy_on", "_law_copy_on", defArgs s_law_copy_on, defBody s_law_copy_on, defScope s_law_copy_on, [], []⟩
def d_law_passes : He.DefD := ⟨("_law_passes", none), "_law_passes", "_law_passes", defArgs s_law_passes, defBody s_law_passes, defScope s_law_passes, [], []⟩
def d_law_writes : He.DefD := ⟨("_law_writes", none), "_law_writes", "_law_writes", defArgs s_law_writes, defBody s_law_writes, defScope s_law_writes, [], []⟩
def d_law_may : He.DefD := ⟨("_law_may", none), "_law_may", "_law_may", defArgs s_law_may, defBody s_law_may, defScope s_law_may, [], []⟩
def d_law_behind_act : He.DefD := ⟨("_law_behind_act", none), "_law_behind_act", "_law_behind_act", defArgs s_law_behind_act, defBody s_law_behind_act, defScope s_law_behind_act, [], []⟩
def d_law_behind_answer : He.DefD := ⟨("_law_behind_answer", none), "_law_behind_answer", "_law_behind_answer", defArgs s_law_behind_answer, defBody s_law_behind_answer, defScope s_law_behind_answer, [], []⟩
def d_law_behind : He.DefD := ⟨("_law_behind", none), "_law_behind", "_law_behind", defArgs s_law_behind, defBody s_law_behind, defScope s_law_behind, [], []⟩
def d_law_own_fault : He.DefD := ⟨("_law_own_fault", none), "_law_own_fault", "_law_own_fault", defArgs s_law_own_fault, defBody s_law_own_fault, defScope s_law_own_fault, [], []⟩
def d_law_faults_right : He.DefD := ⟨("_law_faults_right", none), "_law_faults_right", "_law_faults_right", defArgs s_law_faults_right, defBody s_law_faults_right, defScope s_law_faults_right, [], []⟩
def d_law : He.DefD := ⟨("law", none), "law", "law", defArgs s_law, defBody s_law, defScope s_law, [], []⟩
def dC_Script_init : He.DefD := ⟨("Script", some "__init__"), "__init__", "Script.__init__", defArgs sC_Script_init, defBody sC_Script_init, defScope sC_Script_init, [], []⟩
def dC_Script_getitem : He.DefD := ⟨("Script", some "__getitem__"), "__getitem__", "Script.__getitem__", defArgs sC_Script_getitem, defBody sC_Script_getitem, defScope sC_Script_getitem, [], []⟩
def fn : List He.DefD := [d_is_one_of, d_is_there, d_are_bits, d_is_copy, d_need_server, d_server_after, d_copy_after, d_matches, d_is_left_out, d_read_by, d_does_hold, d_put_by, d_take_by, d_is_number, d_is_step, d_next_behind, d_need_others, d_need_net, d_first_of, d_is_late, d_is_state, d_need_state, d_answer_to, d_act_of, d_is_done_by, d_can_happen, d_late_after, d_acted, d_ticked, d_at_step, d_seen_now, d_answered, d_sent_now, d_unheard, d_unsent, d_come, d_stepped, d_events_in, d_events_of, d_step, d_walked, d_is_fault_in, d_need_promise, d_is_fault, d_law_begun, d_law_draw, d_law_of, d_law_conditions, d_law_any_step, d_law_any_steps, d_law_any_others, d_law_next_step, d_law_act_of, d_law_error_word, d_law_told, d_law_standings_at, d_law_any_state, d_law_copy_on, d_law_passes, d_law_writes, d_law_may, d_law_behind_act, d_law_behind_answer, d_law_behind, d_law_own_fault, d_law_faults_right, d_law, dC_Script_init, dC_Script_getitem]
def fa : List He.Fa := [.glo "is_one_of", .glo "is_there", .glo "are_bits", .glo "is_copy", .glo "need_server", .glo "server_after", .glo "copy_after", .glo "matches", .glo "is_left_out", .glo "read_by", .glo "does_hold", .glo "put_by", .glo "take_by", .glo "is_number", .glo "is_step", .glo "next_behind", .glo "need_others", .glo "need_net", .glo "first_of", .glo "is_late", .glo "is_state", .glo "need_state", .glo "answer_to", .glo "act_of", .glo "is_done_by", .glo "can_happen", .glo "late_after", .glo "acted", .glo "ticked", .glo "at_step", .glo "seen_now", .glo "answered", .glo "sent_now", .glo "unheard", .glo "unsent", .glo "come", .glo "stepped", .glo "events_in", .glo "events_of", .glo "step", .glo "walked", .glo "is_fault_in", .glo "need_promise", .glo "is_fault", .glo "_law_begun", .glo "_law_draw", .glo "_law_of", .glo "_law_conditions", .glo "_law_any_step", .glo "_law_any_steps", .glo "_law_any_others", .glo "_law_next_step", .glo "_law_act_of", .glo "_law_error_word", .glo "_law_told", .glo "_law_standings_at", .glo "_law_any_state", .glo "_law_copy_on", .glo "_law_passes", .glo "_law_writes", .glo "_law_may", .glo "_law_behind_act", .glo "_law_behind_answer", .glo "_law_behind", .glo "_law_own_fault", .glo "_law_faults_right", .glo "law", .glo "PutError", .glo "BadServer", .glo "BadCopy", .glo "BadAct", .glo "BadCondition", .glo "BadScript", .glo "BadState", .glo "BadEvent", .glo "BadOthers", .glo "BadNet", .glo "BadPromise", .glo "BadNumber", .glo "TooGreat", .glo "Script", .glo "STANDINGS", .glo "PLACES", .glo "CONDITIONS", .glo "ANSWERS", .str "FRESH" "fresh", .str "GONE" "gone", .str "NEVER" "never", .str "THERE" "there", .str "GREAT" "great", .str "SMALL" "small", .str "TAKE" "take", .str "TICK" "tick", .str "PLAIN" "plain", .str "TAG" "tag", .str "LOOK" "look", .str "STAMP" "stamp", .str "IF_THERE" "there", .str "IF_NONE" "none", .str "GOT" "got", .str "MINE" "mine", .str "UNCHANGED" "unchanged", .str "ABSENT" "absent", .str "YES" "yes", .str "NO" "no", .str "READ" "read", .str "PUT" "put", .str "FORGET" "forget", .str "END" "end", .str "OPEN" "open", .str "LOST" "lost", .str "SURE" "sure", .str "LATE_NET" "late", .str "AGAIN" "again", .str "ANSWERED" "answered", .str "UNHEARD" "unheard", .str "UNSENT" "unsent", .str "COME" "come", .str "KEPT" "kept", .str "TAKEN" "gone", .int "MOST_STEPS" 8, .int "MOST_DONE" 2, .free "isinstance", .free "len", .free "all", .free "str", .free "int", .free "bool", .free "tuple", .free "list", .free "enumerate", .free "zip", .free "min", .free "range", .free "repr", .free "super", .free "TypeError", .cls "Script", .mkr "Script", .meth "Script" "__getitem__", .noat "Script" "steps"]
def ts : List He.Tab := [(fun K => He.ga K "STANDINGS", ["fresh", "gone", "never", "there"]), (fun K => He.ga K "PLACES", ["tag", "look", "stamp"]), (fun K => He.ga K "CONDITIONS", ["read", "put", "take"]), (fun K => He.ga K "ANSWERS", ["read", "put", "take"])]
def loose : List Str := (["_wall", "PutError", "BadServer", "BadCopy", "BadAct", "BadCondition", "BadScript", "BadState", "BadEvent", "BadOthers", "BadNet", "BadPromise", "BadNumber", "TooGreat", "FRESH", "GONE", "NEVER", "THERE", "GREAT", "SMALL", "TAKE", "TICK", "SERVERS", "STANDINGS", "is_one_of", "is_there", "are_bits", "is_copy", "need_server", "server_after"] : List Str) ++ (["copy_after", "PLAIN", "TAG", "LOOK", "STAMP", "IF_THERE", "IF_NONE", "READ_CONDITIONS", "PUT_CONDITIONS", "TAKE_CONDITIONS", "GOT", "MINE", "UNCHANGED", "ABSENT", "YES", "NO", "PLACES", "matches", "is_left_out", "read_by", "does_hold", "put_by", "take_by", "MOST_STEPS", "READ", "PUT", "FORGET", "END", "OPEN", "LOST"] : List Str) ++ (["ENDS", "CONDITIONS", "ANSWERS", "is_number", "is_step", "Script", "next_behind", "SURE", "LATE_NET", "AGAIN", "NETS", "ANSWERED", "UNHEARD", "UNSENT", "COME", "EVENTS", "WRITINGS", "MOST_DONE", "PRESENT", "ELDER", "need_others", "need_net", "first_of", "is_late", "is_state", "need_state", "answer_to", "act_of", "is_done_by", "can_happen"] : List Str) ++ (["late_after", "acted", "ticked", "at_step", "seen_now", "answered", "sent_now", "unheard", "unsent", "come", "stepped", "events_in", "events_of", "step", "walked", "is_fault_in", "KEPT", "TAKEN", "need_promise", "is_fault", "_law_begun", "_law_draw", "_law_of", "_law_conditions", "_law_any_step", "_law_any_steps", "_law_any_others", "_law_next_step", "_law_act_of", "_law_error_word"] : List Str) ++ (["_law_told", "_law_standings_at", "_law_any_state", "_law_copy_on", "_law_passes", "_law_writes", "_law_may", "_law_behind_act", "_law_behind_answer", "_law_behind", "_law_own_fault", "_law_faults_right"] : List Str)
def k_SERVERS : PyData := .tuple [.str "fresh", .str "gone", .str "never", .str "there"]
def k_READ_CONDITIONS : PyData := .tuple [.str "look", .str "plain", .str "stamp", .str "tag"]
def k_PUT_CONDITIONS : PyData := .tuple [.str "none", .str "plain", .str "stamp", .str "tag", .str "there"]
def k_TAKE_CONDITIONS : PyData := .tuple [.str "plain", .str "stamp", .str "tag", .str "there"]
def k_ENDS : PyData := .tuple [.str "yes", .str "no", .str "open"]
def k_NETS : PyData := .tuple [.str "sure", .str "lost", .str "late", .str "again"]
def k_EVENTS : PyData := .tuple [.str "great", .str "small", .str "take", .str "tick", .str "answered", .str "unheard", .str "unsent", .str "come"]
def k_WRITINGS : PyData := .tuple [.str "great", .str "small", .str "take"]
def k_PRESENT : PyData := .tuple [.int 1, .int 1, .int 1, .int 1]
def k_ELDER : PyData := .tuple [.int 1, .int 1, .int 1, .int 0]
def k_STANDINGS_fresh : PyData := .tuple [.tuple [.int 0, .int 0, .int 0, .int 0], .tuple [.int 0, .int 0, .int 1, .int 1], .tuple [.int 0, .int 1, .int 0, .int 0], .tuple [.int 0, .int 1, .int 1, .int 1], .tuple [.int 1, .int 1, .int 1, .int 1]]
def k_STANDINGS_gone : PyData := .tuple [.tuple [.int 0, .int 0, .int 0, .int 0], .tuple [.int 0, .int 0, .int 0, .int 1]]
def k_STANDINGS_never : PyData := .tuple []
def k_STANDINGS_there : PyData := .tuple [.tuple [.int 0, .int 0, .int 0, .int 0], .tuple [.int 0, .int 0, .int 1, .int 0], .tuple [.int 0, .int 1, .int 0, .int 0], .tuple [.int 0, .int 1, .int 1, .int 0], .tuple [.int 1, .int 1, .int 1, .int 0]]
def k_PLACES_tag : PyData := .int 0
def k_PLACES_look : PyData := .int 1
def k_PLACES_stamp : PyData := .int 2
def k_CONDITIONS_read : PyData := .tuple [.str "look", .str "plain", .str "stamp", .str "tag"]
def k_CONDITIONS_put : PyData := .tuple [.str "none", .str "plain", .str "stamp", .str "tag", .str "there"]
def k_CONDITIONS_take : PyData := .tuple [.str "plain", .str "stamp", .str "tag", .str "there"]
def k_ANSWERS_read : PyData := .tuple [.str "got", .str "mine", .str "unchanged", .str "absent", .str "lost"]
def k_ANSWERS_put : PyData := .tuple [.str "yes", .str "no", .str "lost"]
def k_ANSWERS_take : PyData := .tuple [.str "yes", .str "no", .str "absent", .str "lost"]
def exL : List (PySem.W.Frag → Bool) := [fun K => gdB K "SERVERS" k_SERVERS, fun K => gdB K "READ_CONDITIONS" k_READ_CONDITIONS, fun K => gdB K "PUT_CONDITIONS" k_PUT_CONDITIONS, fun K => gdB K "TAKE_CONDITIONS" k_TAKE_CONDITIONS, fun K => gdB K "ENDS" k_ENDS, fun K => gdB K "NETS" k_NETS, fun K => gdB K "EVENTS" k_EVENTS, fun K => gdB K "WRITINGS" k_WRITINGS, fun K => gdB K "PRESENT" k_PRESENT, fun K => gdB K "ELDER" k_ELDER, fun K => tdB K "STANDINGS" "fresh" k_STANDINGS_fresh, fun K => tdB K "STANDINGS" "gone" k_STANDINGS_gone, fun K => tdB K "STANDINGS" "never" k_STANDINGS_never, fun K => tdB K "STANDINGS" "there" k_STANDINGS_there, fun K => tdB K "PLACES" "tag" k_PLACES_tag, fun K => tdB K "PLACES" "look" k_PLACES_look, fun K => tdB K "PLACES" "stamp" k_PLACES_stamp, fun K => tdB K "CONDITIONS" "read" k_CONDITIONS_read, fun K => tdB K "CONDITIONS" "put" k_CONDITIONS_put, fun K => tdB K "CONDITIONS" "take" k_CONDITIONS_take, fun K => tdB K "ANSWERS" "read" k_ANSWERS_read, fun K => tdB K "ANSWERS" "put" k_ANSWERS_put, fun K => tdB K "ANSWERS" "take" k_ANSWERS_take, fun K => tnB K "PLACES" "plain", fun K => tnB K "PLACES" "there", fun K => tnB K "PLACES" "none", fun K => twB K "ANSWERS" "read", fun K => twB K "ANSWERS" "put", fun K => twB K "ANSWERS" "take"]
/-- the facts, of the written part K -/
def SaysM (w : World) (K : PySem.W.Frag) : Prop := He.SaysT fa fn ts w K ∧ (exL.all fun f => f K) = true
structure Txt (w : World) (K : PySem.W.Frag) (mg : Str → Option Value) : Prop where
  says : SaysM w K
  at_ : ∃ h : Heap, K.In h ∧ h.Ns mainGlobals mg
section
variable {w : World} {K : PySem.W.Frag} {mg : Str → Option Value} {d : PyData}
theorem Txt.ex (T : Txt w K mg) (i : Nat) {f : PySem.W.Frag → Bool} (h : exL[i]? = some f := by rfl) : f K = true := List.all_eq_true.mp T.says.2 f (List.mem_of_getElem? h)
theorem Txt.glo (T : Txt w K mg) (i : Nat) {x : Str} (h : fa[i]? = some (.glo x) := by rfl) : mg x = some (.ref (He.ga K x)) := by
  obtain ⟨hp, X, G⟩ := T.at_
  exact He.glo_ok X G (T.says.1.d.fact i h)
theorem Txt.free (T : Txt w K mg) (i : Nat) {x : Str} (h : fa[i]? = some (.free x) := by rfl) : mg x = none := by
  obtain ⟨hp, X, G⟩ := T.at_
  exact He.free_ok X G (T.says.1.d.fact i h)
theorem Txt.str (T : Txt w K mg) (i : Nat) {x z : Str} (h : fa[i]? = some (.str x z) := by rfl) : GV K mg x (.str z) := by
  obtain ⟨hp, X, G⟩ := T.at_
  obtain ⟨t, e⟩ := He.str_ok X G (T.says.1.d.fact i h)
  exact ⟨_, .str z, e, ⟨t, rfl⟩, fun _ => .str z⟩
theorem Txt.int (T : Txt w K mg) (i : Nat) {x : Str} {n : Int} (h : fa[i]? = some (.int x n) := by rfl) : GV K mg x (.int n) := by
  obtain ⟨hp, X, G⟩ := T.at_
  obtain ⟨t, e⟩ := He.int_ok X G (T.says.1.d.fact i h)
  exact ⟨_, .int n, e, ⟨t, rfl⟩, fun _ => .int n⟩
theorem Txt.gd (T : Txt w K mg) (i : Nat) {x : Str} (h : exL[i]? = some (fun K => gdB K x d) := by rfl) : GV K mg x d := by
  obtain ⟨hp, X, G⟩ := T.at_
  have q := T.ex i h
  unfold gdB at q
  cases e : PySem.W.nsIn K mainGlobals x with
  | none =>
    rw [e] at q
    cases q
  | some o =>
    rw [e] at q
    cases o with
    | none => cases q
    | some u =>
      obtain ⟨v, r, h1⟩ := kdB_ok d u q
      exact ⟨u, v, PySem.W.mg_of X G e, r, h1⟩
theorem Txt.tab (T : Txt w K mg) (i : Nat) {x : Str} {ks : List Str} (h : ts[i]? = some (fun K => He.ga K x, ks) := by rfl) : ∃ es n, KDict K w (He.ga K x) es n := T.says.1.tab i h
theorem Txt.tv (T : Txt w K mg) (i j : Nat) {x s : Str} {ks : List Str} (h : exL[i]? = some (fun K => tdB K x s d) := by rfl) (h2 : ts[j]? = some (fun K => He.ga K x, ks) := by rfl) : TV K w x s d := by
  refine ⟨T.tab j h2, ?_⟩
  have q := T.ex i h
  unfold tdB at q
  cases e : PySem.W.nsIn K (He.ga K x) s with
  | none =>
    rw [e] at q
    cases q
  | some o =>
    rw [e] at q
    cases o with
    | none => cases q
    | some u =>
      obtain ⟨v, r, h1⟩ := kdB_ok d u q
      exact ⟨u, v, rfl, r, h1⟩
theorem Txt.tw (T : Txt w K mg) (i : Nat) {x s : Str} (h : exL[i]? = some (fun K => twB K x s) := by rfl) : TW K x s := twB_ok (T.ex i h)
theorem Txt.tn (T : Txt w K mg) (i j : Nat) {x s : Str} {ks : List Str} (h : exL[i]? = some (fun K => tnB K x s) := by rfl) (h2 : ts[j]? = some (fun K => He.ga K x, ks) := by rfl) : TN K w x s :=
  ⟨T.tab j h2, He.eqO_ok (T.ex i h)⟩
end
section
variable {w : World} {K : PySem.W.Frag} {mg : Str → Option Value} (T : Txt w K mg)
include T
theorem h_is_one_of : ∃ fd, FnP K "is_one_of" s_is_one_of (He.ga K "is_one_of") fd := T.says.1.d.def_ 0 (d := d_is_one_of)
theorem h_is_there : ∃ fd, FnP K "is_there" s_is_there (He.ga K "is_there") fd := T.says.1.d.def_ 1 (d := d_is_there)
theorem h_are_bits : ∃ fd, FnP K "are_bits" s_are_bits (He.ga K "are_bits") fd := T.says.1.d.def_ 2 (d := d_are_bits)
theorem h_is_copy : ∃ fd, FnP K "is_copy" s_is_copy (He.ga K "is_copy") fd := T.says.1.d.def_ 3 (d := d_is_copy)
theorem h_need_server : ∃ fd, FnP K "need_server" s_need_server (He.ga K "need_server") fd := T.says.1.d.def_ 4 (d := d_need_server)
theorem h_server_after : ∃ fd, FnP K "server_after" s_server_after (He.ga K "server_after") fd := T.says.1.d.def_ 5 (d := d_server_after)
theorem h_copy_after : ∃ fd, FnP K "copy_after" s_copy_after (He.ga K "copy_after") fd := T.says.1.d.def_ 6 (d := d_copy_after)
theorem h_matches : ∃ fd, FnP K "matches" s_matches (He.ga K "matches") fd := T.says.1.d.def_ 7 (d := d_matches)
theorem h_is_left_out : ∃ fd, FnP K "is_left_out" s_is_left_out (He.ga K "is_left_out") fd := T.says.1.d.def_ 8 (d := d_is_left_out)
theorem h_read_by : ∃ fd, FnP K "read_by" s_read_by (He.ga K "read_by") fd := T.says.1.d.def_ 9 (d := d_read_by)
theorem h_does_hold : ∃ fd, FnP K "does_hold" s_does_hold (He.ga K "does_hold") fd := T.says.1.d.def_ 10 (d := d_does_hold)
theorem h_put_by : ∃ fd, FnP K "put_by" s_put_by (He.ga K "put_by") fd := T.says.1.d.def_ 11 (d := d_put_by)
theorem h_take_by : ∃ fd, FnP K "take_by" s_take_by (He.ga K "take_by") fd := T.says.1.d.def_ 12 (d := d_take_by)
theorem h_is_number : ∃ fd, FnP K "is_number" s_is_number (He.ga K "is_number") fd := T.says.1.d.def_ 13 (d := d_is_number)
theorem h_is_step : ∃ fd, FnP K "is_step" s_is_step (He.ga K "is_step") fd := T.says.1.d.def_ 14 (d := d_is_step)
theorem h_next_behind : ∃ fd, FnP K "next_behind" s_next_behind (He.ga K "next_behind") fd := T.says.1.d.def_ 15 (d := d_next_behind)
theorem h_need_others : ∃ fd, FnP K "need_others" s_need_others (He.ga K "need_others") fd := T.says.1.d.def_ 16 (d := d_need_others)
theorem h_need_net : ∃ fd, FnP K "need_net" s_need_net (He.ga K "need_net") fd := T.says.1.d.def_ 17 (d := d_need_net)
theorem h_first_of : ∃ fd, FnP K "first_of" s_first_of (He.ga K "first_of") fd := T.says.1.d.def_ 18 (d := d_first_of)
theorem h_is_late : ∃ fd, FnP K "is_late" s_is_late (He.ga K "is_late") fd := T.says.1.d.def_ 19 (d := d_is_late)
theorem h_is_state : ∃ fd, FnP K "is_state" s_is_state (He.ga K "is_state") fd := T.says.1.d.def_ 20 (d := d_is_state)
theorem h_need_state : ∃ fd, FnP K "need_state" s_need_state (He.ga K "need_state") fd := T.says.1.d.def_ 21 (d := d_need_state)
theorem h_answer_to : ∃ fd, FnP K "answer_to" s_answer_to (He.ga K "answer_to") fd := T.says.1.d.def_ 22 (d := d_answer_to)
theorem h_act_of : ∃ fd, FnP K "act_of" s_act_of (He.ga K "act_of") fd := T.says.1.d.def_ 23 (d := d_act_of)
theorem h_is_done_by : ∃ fd, FnP K "is_done_by" s_is_done_by (He.ga K "is_done_by") fd := T.says.1.d.def_ 24 (d := d_is_done_by)
theorem h_can_happen : ∃ fd, FnP K "can_happen" s_can_happen (He.ga K "can_happen") fd := T.says.1.d.def_ 25 (d := d_can_happen)
theorem h_late_after : ∃ fd, FnP K "late_after" s_late_after (He.ga K "late_after") fd := T.says.1.d.def_ 26 (d := d_late_after)
theorem h_acted : ∃ fd, FnP K "acted" s_acted (He.ga K "acted") fd := T.says.1.d.def_ 27 (d := d_acted)
theorem h_ticked : ∃ fd, FnP K "ticked" s_ticked (He.ga K "ticked") fd := T.says.1.d.def_ 28 (d := d_ticked)
theorem h_at_step : ∃ fd, FnP K "at_step" s_at_step (He.ga K "at_step") fd := T.says.1.d.def_ 29 (d := d_at_step)
theorem h_seen_now : ∃ fd, FnP K "seen_now" s_seen_now (He.ga K "seen_now") fd := T.says.1.d.def_ 30 (d := d_seen_now)
theorem h_answered : ∃ fd, FnP K "answered" s_answered (He.ga K "answered") fd := T.says.1.d.def_ 31 (d := d_answered)
theorem h_sent_now : ∃ fd, FnP K "sent_now" s_sent_now (He.ga K "sent_now") fd := T.says.1.d.def_ 32 (d := d_sent_now)
theorem h_unheard : ∃ fd, FnP K "unheard" s_unheard (He.ga K "unheard") fd := T.says.1.d.def_ 33 (d := d_unheard)
theorem h_unsent : ∃ fd, FnP K "unsent" s_unsent (He.ga K "unsent") fd := T.says.1.d.def_ 34 (d := d_unsent)
theorem h_come : ∃ fd, FnP K "come" s_come (He.ga K "come") fd := T.says.1.d.def_ 35 (d := d_come)
theorem h_stepped : ∃ fd, FnP K "stepped" s_stepped (He.ga K "stepped") fd := T.says.1.d.def_ 36 (d := d_stepped)
theorem h_events_in : ∃ fd, FnP K "events_in" s_events_in (He.ga K "events_in") fd := T.says.1.d.def_ 37 (d := d_events_in)
theorem h_events_of : ∃ fd, FnP K "events_of" s_events_of (He.ga K "events_of") fd := T.says.1.d.def_ 38 (d := d_events_of)
theorem h_step : ∃ fd, FnP K "step" s_step (He.ga K "step") fd := T.says.1.d.def_ 39 (d := d_step)
theorem h_walked : ∃ fd, FnP K "walked" s_walked (He.ga K "walked") fd := T.says.1.d.def_ 40 (d := d_walked)
theorem h_is_fault_in : ∃ fd, FnP K "is_fault_in" s_is_fault_in (He.ga K "is_fault_in") fd := T.says.1.d.def_ 41 (d := d_is_fault_in)
theorem h_need_promise : ∃ fd, FnP K "need_promise" s_need_promise (He.ga K "need_promise") fd := T.says.1.d.def_ 42 (d := d_need_promise)
theorem h_is_fault : ∃ fd, FnP K "is_fault" s_is_fault (He.ga K "is_fault") fd := T.says.1.d.def_ 43 (d := d_is_fault)
theorem h_law_begun : ∃ fd, FnP K "_law_begun" s_law_begun (He.ga K "_law_begun") fd := T.says.1.d.def_ 44 (d := d_law_begun)
theorem h_law_draw : ∃ fd, FnP K "_law_draw" s_law_draw (He.ga K "_law_draw") fd := T.says.1.d.def_ 45 (d := d_law_draw)
theorem h_law_of : ∃ fd, FnP K "_law_of" s_law_of (He.ga K "_law_of") fd := T.says.1.d.def_ 46 (d := d_law_of)
theorem h_law_conditions : ∃ fd, FnP K "_law_conditions" s_law_conditions (He.ga K "_law_conditions") fd := T.says.1.d.def_ 47 (d := d_law_conditions)
theorem h_law_any_step : ∃ fd, FnP K "_law_any_step" s_law_any_step (He.ga K "_law_any_step") fd := T.says.1.d.def_ 48 (d := d_law_any_step)
theorem h_law_any_steps : ∃ fd, FnP K "_law_any_steps" s_law_any_steps (He.ga K "_law_any_steps") fd := T.says.1.d.def_ 49 (d := d_law_any_steps)
theorem h_law_any_others : ∃ fd, FnP K "_law_any_others" s_law_any_others (He.ga K "_law_any_others") fd := T.says.1.d.def_ 50 (d := d_law_any_others)
theorem h_law_next_step : ∃ fd, FnP K "_law_next_step" s_law_next_step (He.ga K "_law_next_step") fd := T.says.1.d.def_ 51 (d := d_law_next_step)
theorem h_law_act_of : ∃ fd, FnP K "_law_act_of" s_law_act_of (He.ga K "_law_act_of") fd := T.says.1.d.def_ 52 (d := d_law_act_of)
theorem h_law_error_word : ∃ fd, FnP K "_law_error_word" s_law_error_word (He.ga K "_law_error_word") fd := T.says.1.d.def_ 53 (d := d_law_error_word)
theorem h_law_told : ∃ fd, FnP K "_law_told" s_law_told (He.ga K "_law_told") fd := T.says.1.d.def_ 54 (d := d_law_told)
theorem h_law_standings_at : ∃ fd, FnP K "_law_standings_at" s_law_standings_at (He.ga K "_law_standings_at") fd := T.says.1.d.def_ 55 (d := d_law_standings_at)
theorem h_law_any_state : ∃ fd, FnP K "_law_any_state" s_law_any_state (He.ga K "_law_any_state") fd := T.says.1.d.def_ 56 (d := d_law_any_state)
theorem h_law_copy_on : ∃ fd, FnP K "_law_copy_on" s_law_copy_on (He.ga K "_law_copy_on") fd := T.says.1.d.def_ 57 (d := d_law_copy_on)
theorem h_law_passes : ∃ fd, FnP K "_law_passes" s_law_passes (He.ga K "_law_passes") fd := T.says.1.d.def_ 58 (d := d_law_passes)
theorem h_law_writes : ∃ fd, FnP K "_law_writes" s_law_writes (He.ga K "_law_writes") fd := T.says.1.d.def_ 59 (d := d_law_writes)
theorem h_law_may : ∃ fd, FnP K "_law_may" s_law_may (He.ga K "_law_may") fd := T.says.1.d.def_ 60 (d := d_law_may)
theorem h_law_behind_act : ∃ fd, FnP K "_law_behind_act" s_law_behind_act (He.ga K "_law_behind_act") fd := T.says.1.d.def_ 61 (d := d_law_behind_act)
theorem h_law_behind_answer : ∃ fd, FnP K "_law_behind_answer" s_law_behind_answer (He.ga K "_law_behind_answer") fd := T.says.1.d.def_ 62 (d := d_law_behind_answer)
theorem h_law_behind : ∃ fd, FnP K "_law_behind" s_law_behind (He.ga K "_law_behind") fd := T.says.1.d.def_ 63 (d := d_law_behind)
theorem h_law_own_fault : ∃ fd, FnP K "_law_own_fault" s_law_own_fault (He.ga K "_law_own_fault") fd := T.says.1.d.def_ 64 (d := d_law_own_fault)
theorem h_law_faults_right : ∃ fd, FnP K "_law_faults_right" s_law_faults_right (He.ga K "_law_faults_right") fd := T.says.1.d.def_ 65 (d := d_law_faults_right)
theorem h_law : ∃ fd, FnP K "law" s_law (He.ga K "law") fd := T.says.1.d.def_ 66 (d := d_law)
theorem hC_Script_init : ∃ fd, FunD K "__init__" "Script.__init__" (defArgs sC_Script_init) (defBody sC_Script_init) (defScope sC_Script_init) [] [] (He.ma K (He.ga K "Script") "__init__") fd := T.says.1.d.def_ 67 (d := dC_Script_init)
theorem hC_Script_getitem : ∃ fd, FunD K "__getitem__" "Script.__getitem__" (defArgs sC_Script_getitem) (defBody sC_Script_getitem) (defScope sC_Script_getitem) [] [] (He.ma K (He.ga K "Script") "__getitem__") fd := T.says.1.d.def_ 68 (d := dC_Script_getitem)
theorem m_is_one_of : mg "is_one_of" = some (.ref (He.ga K "is_one_of")) := T.glo 0
theorem m_is_there : mg "is_there" = some (.ref (He.ga K "is_there")) := T.glo 1
theorem m_are_bits : mg "are_bits" = some (.ref (He.ga K "are_bits")) := T.glo 2
theorem m_is_copy : mg "is_copy" = some (.ref (He.ga K "is_copy")) := T.glo 3
theorem m_need_server : mg "need_server" = some (.ref (He.ga K "need_server")) := T.glo 4
theorem m_server_after : mg "server_after" = some (.ref (He.ga K "server_after")) := T.glo 5
theorem m_copy_after : mg "copy_after" = some (.ref (He.ga K "copy_after")) := T.glo 6
theorem m_matches : mg "matches" = some (.ref (He.ga K "matches")) := T.glo 7
theorem m_is_left_out : mg "is_left_out" = some (.ref (He.ga K "is_left_out")) := T.glo 8
theorem m_read_by : mg "read_by" = some (.ref (He.ga K "read_by")) := T.glo 9
theorem m_does_hold : mg "does_hold" = some (.ref (He.ga K "does_hold")) := T.glo 10
theorem m_put_by : mg "put_by" = some (.ref (He.ga K "put_by")) := T.glo 11
theorem m_take_by : mg "take_by" = some (.ref (He.ga K "take_by")) := T.glo 12
theorem m_is_number : mg "is_number" = some (.ref (He.ga K "is_number")) := T.glo 13
theorem m_is_step : mg "is_step" = some (.ref (He.ga K "is_step")) := T.glo 14
theorem m_next_behind : mg "next_behind" = some (.ref (He.ga K "next_behind")) := T.glo 15
theorem m_need_others : mg "need_others" = some (.ref (He.ga K "need_others")) := T.glo 16
theorem m_need_net : mg "need_net" = some (.ref (He.ga K "need_net")) := T.glo 17
theorem m_first_of : mg "first_of" = some (.ref (He.ga K "first_of")) := T.glo 18
theorem m_is_late : mg "is_late" = some (.ref (He.ga K "is_late")) := T.glo 19
theorem m_is_state : mg "is_state" = some (.ref (He.ga K "is_state")) := T.glo 20
theorem m_need_state : mg "need_state" = some (.ref (He.ga K "need_state")) := T.glo 21
theorem m_answer_to : mg "answer_to" = some (.ref (He.ga K "answer_to")) := T.glo 22
theorem m_act_of : mg "act_of" = some (.ref (He.ga K "act_of")) := T.glo 23
theorem m_is_done_by : mg "is_done_by" = some (.ref (He.ga K "is_done_by")) := T.glo 24
theorem m_can_happen : mg "can_happen" = some (.ref (He.ga K "can_happen")) := T.glo 25
theorem m_late_after : mg "late_after" = some (.ref (He.ga K "late_after")) := T.glo 26
theorem m_acted : mg "acted" = some (.ref (He.ga K "acted")) := T.glo 27
theorem m_ticked : mg "ticked" = some (.ref (He.ga K "ticked")) := T.glo 28
theorem m_at_step : mg "at_step" = some (.ref (He.ga K "at_step")) := T.glo 29
theorem m_seen_now : mg "seen_now" = some (.ref (He.ga K "seen_now")) := T.glo 30
theorem m_answered : mg "answered" = some (.ref (He.ga K "answered")) := T.glo 31
theorem m_sent_now : mg "sent_now" = some (.ref (He.ga K "sent_now")) := T.glo 32
theorem m_unheard : mg "unheard" = some (.ref (He.ga K "unheard")) := T.glo 33
theorem m_unsent : mg "unsent" = some (.ref (He.ga K "unsent")) := T.glo 34
theorem m_come : mg "come" = some (.ref (He.ga K "come")) := T.glo 35
theorem m_stepped : mg "stepped" = some (.ref (He.ga K "stepped")) := T.glo 36
theorem m_events_in : mg "events_in" = some (.ref (He.ga K "events_in")) := T.glo 37
theorem m_events_of : mg "events_of" = some (.ref (He.ga K "events_of")) := T.glo 38
theorem m_step : mg "step" = some (.ref (He.ga K "step")) := T.glo 39
theorem m_walked : mg "walked" = some (.ref (He.ga K "walked")) := T.glo 40
theorem m_is_fault_in : mg "is_fault_in" = some (.ref (He.ga K "is_fault_in")) := T.glo 41
theorem m_need_promise : mg "need_promise" = some (.ref (He.ga K "need_promise")) := T.glo 42
theorem m_is_fault : mg "is_fault" = some (.ref (He.ga K "is_fault")) := T.glo 43
theorem m_law_begun : mg "_law_begun" = some (.ref (He.ga K "_law_begun")) := T.glo 44
theorem m_law_draw : mg "_law_draw" = some (.ref (He.ga K "_law_draw")) := T.glo 45
theorem m_law_of : mg "_law_of" = some (.ref (He.ga K "_law_of")) := T.glo 46
theorem m_law_conditions : mg "_law_conditions" = some (.ref (He.ga K "_law_conditions")) := T.glo 47
theorem m_law_any_step : mg "_law_any_step" = some (.ref (He.ga K "_law_any_step")) := T.glo 48
theorem m_law_any_steps : mg "_law_any_steps" = some (.ref (He.ga K "_law_any_steps")) := T.glo 49
theorem m_law_any_others : mg "_law_any_others" = some (.ref (He.ga K "_law_any_others")) := T.glo 50
theorem m_law_next_step : mg "_law_next_step" = some (.ref (He.ga K "_law_next_step")) := T.glo 51
theorem m_law_act_of : mg "_law_act_of" = some (.ref (He.ga K "_law_act_of")) := T.glo 52
theorem m_law_error_word : mg "_law_error_word" = some (.ref (He.ga K "_law_error_word")) := T.glo 53
theorem m_law_told : mg "_law_told" = some (.ref (He.ga K "_law_told")) := T.glo 54
theorem m_law_standings_at : mg "_law_standings_at" = some (.ref (He.ga K "_law_standings_at")) := T.glo 55
theorem m_law_any_state : mg "_law_any_state" = some (.ref (He.ga K "_law_any_state")) := T.glo 56
theorem m_law_copy_on : mg "_law_copy_on" = some (.ref (He.ga K "_law_copy_on")) := T.glo 57
theorem m_law_passes : mg "_law_passes" = some (.ref (He.ga K "_law_passes")) := T.glo 58
theorem m_law_writes : mg "_law_writes" = some (.ref (He.ga K "_law_writes")) := T.glo 59
theorem m_law_may : mg "_law_may" = some (.ref (He.ga K "_law_may")) := T.glo 60
theorem m_law_behind_act : mg "_law_behind_act" = some (.ref (He.ga K "_law_behind_act")) := T.glo 61
theorem m_law_behind_answer : mg "_law_behind_answer" = some (.ref (He.ga K "_law_behind_answer")) := T.glo 62
theorem m_law_behind : mg "_law_behind" = some (.ref (He.ga K "_law_behind")) := T.glo 63
theorem m_law_own_fault : mg "_law_own_fault" = some (.ref (He.ga K "_law_own_fault")) := T.glo 64
theorem m_law_faults_right : mg "_law_faults_right" = some (.ref (He.ga K "_law_faults_right")) := T.glo 65
theorem m_law : mg "law" = some (.ref (He.ga K "law")) := T.glo 66
theorem m_PutError : mg "PutError" = some (.ref (He.ga K "PutError")) := T.glo 67
theorem m_BadServer : mg "BadServer" = some (.ref (He.ga K "BadServer")) := T.glo 68
theorem m_BadCopy : mg "BadCopy" = some (.ref (He.ga K "BadCopy")) := T.glo 69
theorem m_BadAct : mg "BadAct" = some (.ref (He.ga K "BadAct")) := T.glo 70
theorem m_BadCondition : mg "BadCondition" = some (.ref (He.ga K "BadCondition")) := T.glo 71
theorem m_BadScript : mg "BadScript" = some (.ref (He.ga K "BadScript")) := T.glo 72
theorem m_BadState : mg "BadState" = some (.ref (He.ga K "BadState")) := T.glo 73
theorem m_BadEvent : mg "BadEvent" = some (.ref (He.ga K "BadEvent")) := T.glo 74
theorem m_BadOthers : mg "BadOthers" = some (.ref (He.ga K "BadOthers")) := T.glo 75
theorem m_BadNet : mg "BadNet" = some (.ref (He.ga K "BadNet")) := T.glo 76
theorem m_BadPromise : mg "BadPromise" = some (.ref (He.ga K "BadPromise")) := T.glo 77
theorem m_BadNumber : mg "BadNumber" = some (.ref (He.ga K "BadNumber")) := T.glo 78
theorem m_TooGreat : mg "TooGreat" = some (.ref (He.ga K "TooGreat")) := T.glo 79
theorem m_Script : mg "Script" = some (.ref (He.ga K "Script")) := T.glo 80
theorem m_STANDINGS : mg "STANDINGS" = some (.ref (He.ga K "STANDINGS")) := T.glo 81
theorem m_PLACES : mg "PLACES" = some (.ref (He.ga K "PLACES")) := T.glo 82
theorem m_CONDITIONS : mg "CONDITIONS" = some (.ref (He.ga K "CONDITIONS")) := T.glo 83
theorem m_ANSWERS : mg "ANSWERS" = some (.ref (He.ga K "ANSWERS")) := T.glo 84
theorem g_FRESH : GV K mg "FRESH" (.str "fresh") := T.str 85
theorem g_GONE : GV K mg "GONE" (.str "gone") := T.str 86
theorem g_NEVER : GV K mg "NEVER" (.str "never") := T.str 87
theorem g_THERE : GV K mg "THERE" (.str "there") := T.str 88
theorem g_GREAT : GV K mg "GREAT" (.str "great") := T.str 89
theorem g_SMALL : GV K mg "SMALL" (.str "small") := T.str 90
theorem g_TAKE : GV K mg "TAKE" (.str "take") := T.str 91
theorem g_TICK : GV K mg "TICK" (.str "tick") := T.str 92
theorem g_PLAIN : GV K mg "PLAIN" (.str "plain") := T.str 93
theorem g_TAG : GV K mg "TAG" (.str "tag") := T.str 94
theorem g_LOOK : GV K mg "LOOK" (.str "look") := T.str 95
theorem g_STAMP : GV K mg "STAMP" (.str "stamp") := T.str 96
theorem g_IF_THERE : GV K mg "IF_THERE" (.str "there") := T.str 97
theorem g_IF_NONE : GV K mg "IF_NONE" (.str "none") := T.str 98
theorem g_GOT : GV K mg "GOT" (.str "got") := T.str 99
theorem g_MINE : GV K mg "MINE" (.str "mine") := T.str 100
theorem g_UNCHANGED : GV K mg "UNCHANGED" (.str "unchanged") := T.str 101
theorem g_ABSENT : GV K mg "ABSENT" (.str "absent") := T.str 102
theorem g_YES : GV K mg "YES" (.str "yes") := T.str 103
theorem g_NO : GV K mg "NO" (.str "no") := T.str 104
theorem g_READ : GV K mg "READ" (.str "read") := T.str 105
theorem g_PUT : GV K mg "PUT" (.str "put") := T.str 106
theorem g_FORGET : GV K mg "FORGET" (.str "forget") := T.str 107
theorem g_END : GV K mg "END" (.str "end") := T.str 108
theorem g_OPEN : GV K mg "OPEN" (.str "open") := T.str 109
theorem g_LOST : GV K mg "LOST" (.str "lost") := T.str 110
theorem g_SURE : GV K mg "SURE" (.str "sure") := T.str 111
theorem g_LATE_NET : GV K mg "LATE_NET" (.str "late") := T.str 112
theorem g_AGAIN : GV K mg "AGAIN" (.str "again") := T.str 113
theorem g_ANSWERED : GV K mg "ANSWERED" (.str "answered") := T.str 114
theorem g_UNHEARD : GV K mg "UNHEARD" (.str "unheard") := T.str 115
theorem g_UNSENT : GV K mg "UNSENT" (.str "unsent") := T.str 116
theorem g_COME : GV K mg "COME" (.str "come") := T.str 117
theorem g_KEPT : GV K mg "KEPT" (.str "kept") := T.str 118
theorem g_TAKEN : GV K mg "TAKEN" (.str "gone") := T.str 119
theorem g_MOST_STEPS : GV K mg "MOST_STEPS" (.int 8) := T.int 120
theorem g_MOST_DONE : GV K mg "MOST_DONE" (.int 2) := T.int 121
theorem n_isinstance : mg "isinstance" = none := T.free 122
theorem n_len : mg "len" = none := T.free 123
theorem n_all : mg "all" = none := T.free 124
theorem n_str : mg "str" = none := T.free 125
theorem n_int : mg "int" = none := T.free 126
theorem n_bool : mg "bool" = none := T.free 127
theorem n_tuple : mg "tuple" = none := T.free 128
theorem n_list : mg "list" = none := T.free 129
theorem n_enumerate : mg "enumerate" = none := T.free 130
theorem n_zip : mg "zip" = none := T.free 131
theorem n_min : mg "min" = none := T.free 132
theorem n_range : mg "range" = none := T.free 133
theorem n_repr : mg "repr" = none := T.free 134
theorem n_super : mg "super" = none := T.free 135
theorem n_TypeError : mg "TypeError" = none := T.free 136
theorem c_Script : Cls K (He.ga K "Script") := He.cls_ok (T.says.1.d.fact 137)
theorem k_Script : Mk K (He.ga K "Script") (He.ma K (He.ga K "Script") "__init__") := He.mkr_ok (T.says.1.d.fact 138)
theorem i_Script : Meth K (He.ga K "Script") "__getitem__" (He.ma K (He.ga K "Script") "__getitem__") := He.meth_ok (T.says.1.d.fact 139)
theorem a_Script : NoAttr K (He.ga K "Script") "steps" := He.noat_ok (T.says.1.d.fact 140)
theorem g_SERVERS : GV K mg "SERVERS" k_SERVERS := T.gd 0
theorem g_READ_CONDITIONS : GV K mg "READ_CONDITIONS" k_READ_CONDITIONS := T.gd 1
theorem g_PUT_CONDITIONS : GV K mg "PUT_CONDITIONS" k_PUT_CONDITIONS := T.gd 2
theorem g_TAKE_CONDITIONS : GV K mg "TAKE_CONDITIONS" k_TAKE_CONDITIONS := T.gd 3
theorem g_ENDS : GV K mg "ENDS" k_ENDS := T.gd 4
theorem g_NETS : GV K mg "NETS" k_NETS := T.gd 5
theorem g_EVENTS : GV K mg "EVENTS" k_EVENTS := T.gd 6
theorem g_WRITINGS : GV K mg "WRITINGS" k_WRITINGS := T.gd 7
theorem g_PRESENT : GV K mg "PRESENT" k_PRESENT := T.gd 8
theorem g_ELDER : GV K mg "ELDER" k_ELDER := T.gd 9
theorem t_STANDINGS_fresh : TV K w "STANDINGS" "fresh" k_STANDINGS_fresh := T.tv 10 0
theorem t_STANDINGS_gone : TV K w "STANDINGS" "gone" k_STANDINGS_gone := T.tv 11 0
theorem t_STANDINGS_never : TV K w "STANDINGS" "never" k_STANDINGS_never := T.tv 12 0
theorem t_STANDINGS_there : TV K w "STANDINGS" "there" k_STANDINGS_there := T.tv 13 0
theorem t_PLACES_tag : TV K w "PLACES" "tag" k_PLACES_tag := T.tv 14 1
theorem t_PLACES_look : TV K w "PLACES" "look" k_PLACES_look := T.tv 15 1
theorem t_PLACES_stamp : TV K w "PLACES" "stamp" k_PLACES_stamp := T.tv 16 1
theorem t_CONDITIONS_read : TV K w "CONDITIONS" "read" k_CONDITIONS_read := T.tv 17 2
theorem t_CONDITIONS_put : TV K w "CONDITIONS" "put" k_CONDITIONS_put := T.tv 18 2
theorem t_CONDITIONS_take : TV K w "CONDITIONS" "take" k_CONDITIONS_take := T.tv 19 2
theorem t_ANSWERS_read : TV K w "ANSWERS" "read" k_ANSWERS_read := T.tv 20 3
theorem t_ANSWERS_put : TV K w "ANSWERS" "put" k_ANSWERS_put := T.tv 21 3
theorem t_ANSWERS_take : TV K w "ANSWERS" "take" k_ANSWERS_take := T.tv 22 3
theorem t_PLACES_plain : TN K w "PLACES" "plain" := T.tn 23 1
theorem t_PLACES_there : TN K w "PLACES" "there" := T.tn 24 1
theorem t_PLACES_none : TN K w "PLACES" "none" := T.tn 25 1
theorem w_ANSWERS_read : TW K "ANSWERS" "read" := T.tw 26
theorem w_ANSWERS_put : TW K "ANSWERS" "put" := T.tw 27
theorem w_ANSWERS_take : TW K "ANSWERS" "take" := T.tw 28
end
end PK
namespace PK
open L2 PySem PySem.Spec PyProof.Rows
abbrev kn : List Str := ["BadServer", "BadCopy", "BadAct", "BadCondition", "BadScript", "BadState", "BadEvent", "BadOthers", "BadNet", "BadPromise", "BadNumber", "TooGreat"]
/-! ## further facts of the top, as one Bool -/
abbrev cB (K : PySem.W.Frag) : Addr := He.ga K "BadNumber"
abbrev fB (K : PySem.W.Frag) : Addr := He.ma K (cB K) "__init__"
abbrev BnO : Type := Option (Str × Str × Arguments × FuncBody × Scope × Addr × List Str × Addr)
def bnObs (K : PySem.W.Frag) : BnO := match K.lookup (fB K) with
  | some ⟨_, _, .func fd, _⟩ => some (fd.name, fd.qualname, fd.params, fd.body, fd.scope, fd.globals, fd.closure.map (·.1), fd.builtins)
  | _ => none
def bnVal : BnO := some ("__init__", "BadNumber.__init__", defArgs sC_BadNumber_init, .stmts (defBody sC_BadNumber_init), defScope sC_BadNumber_init, mainGlobals, ["__class__"], builtinsNs)
def isNon : Value → Bool
  | .none => true
  | _ => false
def fileB (K : PySem.W.Frag) (file : Str) : Value → Bool
  | .ref c => (match K.lookup c with
    | some ⟨_, _, .fields vs, _⟩ => (match (vs[2]? : Option Value) with
      | some (.str f _) => file == f
      | _ => false)
    | _ => false)
  | _ => false
def cellB (K : PySem.W.Frag) : List (Str × Addr) → Bool
  | [(_, cc)] => (match K.lookup cc with
    | some ⟨_, _, .cell (some (.ref C)), _⟩ => C == cB K
    | _ => false)
  | _ => false
def bnB (K : PySem.W.Frag) (file : Str) : Bool := match K.lookup (fB K) with
  | some ⟨_, _, .func fd, _⟩ => isNon fd.defaults && (PySem.W.codeIn K fd.code "BadNumber.__init__" && (fileB K file fd.code && cellB K fd.closure))
  | _ => false
def clB (K : PySem.W.Frag) : Bool := match K.lookup (cB K) with
  | some ⟨.type t, _, .cls cd, sl⟩ => decide (t = "type") && (match cd.mro, sl.toList with
    | .ref C :: bm, [_, _, _, _, some (.builtin n), _] => (C == cB K && decide (n = "ValueError.__new__")) && (PySem.HandSPX.refsVE bm && (cd.hasDict && !cd.hasDel))
    | _, _ => false)
  | _ => false
def eqB (a b : Option Bool) : Bool := decide (a = b)
def kitsB (K : PySem.W.Frag) : Bool := kn.all fun n => eqB (PySem.W.kitOne K (.ref (cB K)) (.ref (He.ga K n))) (some (n == "BadNumber"))
def exTail (K : PySem.W.Frag) (file : Str) : Bool := [bnB K file, clB K,
  He.eqO (PySem.W.findIn K (.ref (cB K)) "__setattr__") (some (some (.builtin "object.__setattr__"))), eqB (PySem.W.subIn K (.ref (cB K)) (.type "BaseException")) (some true), decide (PySem.W.typeIn K (.ref (cB K)) = some (.type "type")), PySem.W.keepIn K (.ref (cB K)),
  He.eqO (PySem.W.findIn K (.ref (cB K)) "value") (some none), eqB (PySem.W.mroIn K (cB K) (.ref (cB K))) (some true), He.eqO (PySem.W.ks_superIn K (cB K) (cB K) "__init__") (some (some (.builtin "ValueError.__init__"))),
  He.eqO (PySem.W.nsIn K cStatics "thirdparty.any") (some none), eqB (PySem.W.subIn K (.ref (cB K)) (.type "ValueError")) (some true), He.eqO (PySem.W.findIn K (.ref (cB K)) "__init__") (some (some (.ref (fB K)))), decide (PySem.W.typeIn K (.ref (fB K)) = some (.type "function")),
  PySem.W.noSeq K (He.ga K "Script"), PySem.W.fnIn K (He.ma K (He.ga K "Script") "__getitem__"), He.eqO (PySem.W.nsIn K mainGlobals "super") (some none), xfB K (cB K), He.eqO (PySem.W.findIn K (.ref (cB K)) "__class__") (some (some (.builtin "object.__class__"))),
  He.eqO (PySem.W.specialIn K (.builtin "object.__class__") "__get__") (some (some (.builtin "getset_descriptor.__get__"))), eqB (PySem.W.takesIn K (.builtin "object.__class__")) (some true), eqB (PySem.W.mroIn K (cB K) (.type "object")) (some true),
  eqB (PySem.W.exmAny K (.ref (cB K)) [.ref (He.ga K "PutError"), .ref (He.ga K "TooGreat")]) (some true), kitsB K].all id
end PK
namespace PK
open L2 PySem PySem.Spec PyProof.Rows
/-! ### the run of the top -/
/-- what an object names, as far as it is wanted here -/
def refsM (o : Obj) : List Addr := match o.data with
  | .seq its _ => its.toList.flatMap He.refV
  | .dict es _ => es.toList.flatMap fun e => He.refV e.val
  | .func fd => He.refV fd.code ++ fd.closure.map (·.2)
  | .cls cd => [cd.ns]
  | _ => []
def nextM (g : Addr → Option Obj) (as : List Addr) : List Addr := as.flatMap fun a => match g a with
  | some o => refsM o
  | none => []
def fiveM (g : Addr → Option Obj) (a : List Addr) : List Addr :=
  (fun b => (fun c => (fun d => (fun e => a ++ b ++ c ++ d ++ e) (nextM g d)) (nextM g c)) (nextM g b)) (nextM g a)
def asM (g : Addr → Option Obj) : List Addr := cStatics :: fiveM g [mainGlobals]
abbrev R : PySem.W.OpenRow := PySem.W.OpenLaw.row PySem.Challenge.rw_putonlyif_k22_whole_steps_of_any_state
abbrev AlM : Type := He.AlT × Bool × BnO
abbrev lawP : He.Defn := ("law", none)
def obsM (g : Addr → Option Obj) : AlM := (He.obsT fa fn ts (He.frT g (asM g)), (exL.all fun f => f (He.frT g (asM g))) && (He.tabsB g [lawP] (He.frT g (asM g)) && exTail (He.frT g (asM g)) R.prog.main.file), bnObs (He.frT g (asM g)))
/-- what is told of the written part and of the table of law's code object -/
structure SaysL (w : World) (h : Heap) (K : PySem.W.Frag) : Prop where
  m : SaysM w K
  t : exTail K R.prog.main.file = true
  b : bnObs K = bnVal
  hd : PySem.W.codeHdIn K (He.cT K lawP).1 (He.cT K lawP).2 = true
  out : K.lookup (He.cT K lawP).2 = none
  nil : h.get? (He.cT K lawP).2 = some { cls := .none, data := .fields #[] }
theorem saysL_of {w : World} {h : Heap} (e : obsM h.get? = (He.valT fn ts w, true, bnVal)) : SaysL w h (He.frT h.get? (asM h.get?)) := by
  have e1 : He.obsT fa fn ts (He.frT h.get? (asM h.get?)) = He.valT fn ts w := congrArg (fun z : AlM => z.1) e
  have e2 : ((exL.all fun f => f (He.frT h.get? (asM h.get?))) && (He.tabsB h.get? [lawP] (He.frT h.get? (asM h.get?)) && exTail (He.frT h.get? (asM h.get?)) R.prog.main.file)) = true := congrArg (fun z : AlM => z.2.1) e
  have e3 : bnObs (He.frT h.get? (asM h.get?)) = bnVal := congrArg (fun z : AlM => z.2.2) e
  obtain ⟨f1, e2⟩ := He.ba e2
  obtain ⟨f2, f3⟩ := He.ba e2
  obtain ⟨f4, f5⟩ := He.ba (List.all_eq_true.mp f2 lawP (.head _))
  cases q : h.get? (He.cT (He.frT h.get? (asM h.get?)) lawP).2 with
  | none =>
    rw [q] at f5
    cases f5
  | some o =>
    rw [q] at f5
    have f6 : He.emptyTab o = true := f5
    exact ⟨⟨e1, f1⟩, f3, e3, f4, He.frT_none q f6, by rw [q, He.emptyTab_eq f6]⟩
def hookM : PySem.W.Hook where
  α := AlM
  obs := fun s => obsM s.heap.get?
  val := fun w => (He.valT fn ts w, true, bnVal)
  says := fun w h => ∃ K : PySem.W.Frag, K.In h ∧ SaysL w h K
  of := fun _ _ e => ⟨_, He.frT_in, saysL_of e⟩
  keeps := fun _ _ _ ⟨K, hK, c⟩ k => ⟨K, PySem.W.Frag.In.keeps hK k, ⟨c.m, c.t, c.b, c.hd, c.out, k _ _ c.nil⟩⟩
def ob (s : PySem.W.SharedT) : AlM := obsM (HandSHeadRun.getT s)
theorem ob_eq (s : PySem.W.SharedT) : ob s = hookM.obs s.abs := by
  have e : HandSHeadRun.getT s = s.abs.heap.get? := funext (HandSHeadRun.getT_eq s)
  unfold ob
  rw [e] <;> rfl
end PK
namespace PK
open L2 PySem PySem.Spec PyProof.Rows
section
open PySem.W PySem.Calls
abbrev qv : Program := PySem.W.view R.prog [139]
noncomputable def topEnd (w : World) (os : OsState) : Option PySem.W.SharedT := HandSHeadRun.endF (HandSHeadRun.stepQ (HandSHeadRun.denQ HandSHeadRun.tabQ) R.prog w) 8000 R.prog w os
abbrev frM (s : PySem.W.SharedT) : PySem.W.Frag := He.frT (HandSHeadRun.getT s) (asM (HandSHeadRun.getT s))
theorem run1f (w : World) (os : OsState) : (topEnd (w.withFollow "special-get-raises" false) os).map (fun s => HandSHeadRun.looksF R.prog (boot_heap ((w.withFollow "special-get-raises" false)).params) s.abs) = some (true) := by
  kernel_rfl
theorem run1t (w : World) (os : OsState) : (topEnd (w.withFollow "special-get-raises" true) os).map (fun s => HandSHeadRun.looksF R.prog (boot_heap ((w.withFollow "special-get-raises" true)).params) s.abs) = some (true) := by
  kernel_rfl
theorem run1 (w : World) : ∀ os, (topEnd w os).map (fun s => HandSHeadRun.looksF R.prog (boot_heap (w).params) s.abs) = some (true) :=
  byRow2 "special-get-raises" (P := fun w => ∀ os, (topEnd w os).map (fun s => HandSHeadRun.looksF R.prog (boot_heap (w).params) s.abs) = some (true)) run1f run1t w
theorem run2f (w : World) (os : OsState) : (topEnd (w.withFollow "special-get-raises" false) os).map (fun s => HandSHeadRun.seenQ qv loose (importedModules R.prog.main.body) (fun s => xlAt qv [] s && recOk R.toRowW.records s) s.abs) = some (openGood qv loose) := by
  kernel_rfl
theorem run2t (w : World) (os : OsState) : (topEnd (w.withFollow "special-get-raises" true) os).map (fun s => HandSHeadRun.seenQ qv loose (importedModules R.prog.main.body) (fun s => xlAt qv [] s && recOk R.toRowW.records s) s.abs) = some (openGood qv loose) := by
  kernel_rfl
theorem run2 (w : World) : ∀ os, (topEnd w os).map (fun s => HandSHeadRun.seenQ qv loose (importedModules R.prog.main.body) (fun s => xlAt qv [] s && recOk R.toRowW.records s) s.abs) = some (openGood qv loose) :=
  byRow2 "special-get-raises" (P := fun w => ∀ os, (topEnd w os).map (fun s => HandSHeadRun.seenQ qv loose (importedModules R.prog.main.body) (fun s => xlAt qv [] s && recOk R.toRowW.records s) s.abs) = some (openGood qv loose)) run2f run2t w
theorem run3af (w : World) (os : OsState) : (topEnd (w.withFollow "special-get-raises" false) os).map (fun s => He.obsT fa fn ts (frM s)) = some (He.valT fn ts (w.withFollow "special-get-raises" false)) := by
  kernel_rfl
theorem run3at (w : World) (os : OsState) : (topEnd (w.withFollow "special-get-raises" true) os).map (fun s => He.obsT fa fn ts (frM s)) = some (He.valT fn ts (w.withFollow "special-get-raises" true)) := by
  kernel_rfl
theorem run3a (w : World) : ∀ os, (topEnd w os).map (fun s => He.obsT fa fn ts (frM s)) = some (He.valT fn ts w) :=
  byRow2 "special-get-raises" (P := fun w => ∀ os, (topEnd w os).map (fun s => He.obsT fa fn ts (frM s)) = some (He.valT fn ts w)) run3af run3at w
theorem run3bf (w : World) (os : OsState) : (topEnd (w.withFollow "special-get-raises" false) os).map (fun s => ((exL.all fun f => f (frM s)) && (He.tabsB (HandSHeadRun.getT s) [lawP] (frM s) && exTail (frM s) R.prog.main.file), bnObs (frM s))) = some ((true, bnVal)) := by
  kernel_rfl
theorem run3bt (w : World) (os : OsState) : (topEnd (w.withFollow "special-get-raises" true) os).map (fun s => ((exL.all fun f => f (frM s)) && (He.tabsB (HandSHeadRun.getT s) [lawP] (frM s) && exTail (frM s) R.prog.main.file), bnObs (frM s))) = some ((true, bnVal)) := by
  kernel_rfl
theorem run3b (w : World) : ∀ os, (topEnd w os).map (fun s => ((exL.all fun f => f (frM s)) && (He.tabsB (HandSHeadRun.getT s) [lawP] (frM s) && exTail (frM s) R.prog.main.file), bnObs (frM s))) = some ((true, bnVal)) :=
  byRow2 "special-get-raises" (P := fun w => ∀ os, (topEnd w os).map (fun s => ((exL.all fun f => f (frM s)) && (He.tabsB (HandSHeadRun.getT s) [lawP] (frM s) && exTail (frM s) R.prog.main.file), bnObs (frM s))) = some ((true, bnVal))) run3bf run3bt w
theorem run3 (w : World) : ∀ os, (topEnd w os).map (fun s => ob s) = some (hookM.val w) := fun os => by
  have a := run3a w os
  have b := run3b w os
  cases q : topEnd w os with
  | none =>
    rw [q] at a
    cases a
  | some s =>
    rw [q] at a b
    have a' : He.obsT fa fn ts (frM s) = He.valT fn ts w := Option.some.inj a
    have b' : ((exL.all fun f => f (frM s)) && (He.tabsB (HandSHeadRun.getT s) [lawP] (frM s) && exTail (frM s) R.prog.main.file), bnObs (frM s)) = (true, bnVal) := Option.some.inj b
    show some ((He.obsT fa fn ts (frM s), ((exL.all fun f => f (frM s)) && (He.tabsB (HandSHeadRun.getT s) [lawP] (frM s) && exTail (frM s) R.prog.main.file), bnObs (frM s))) : AlM) = some (He.valT fn ts w, true, bnVal)
    rw [a', b'] <;> rfl
theorem join3 {α β γ δ : Type} {e : Option α} {f : α → β} {g : α → γ} {h : α → δ} {b : β} {c : γ} {d : δ} (hf : e.map f = some b) (hg : e.map g = some c) (hh : e.map h = some d) : e.map (fun s => (f s, g s, h s)) = some (b, c, d) := by
  cases e with
  | none => cases hf
  | some s =>
    cases hf
    cases hg
    cases hh
    rfl
theorem run (w : World) : HandSHeadRun.RunEq R qv hookM ob 8000 loose w := fun os => join3 (run1 w os) (run2 w os) (run3 w os)
end
end PK
namespace PK
open PySem PySem.W PySem.Calls PyProof.Rows
theorem top_any (call : WalkO qv loose (XL qv []) hookM.says R.toRowW (HandSHeadRun.topDef R.prog 139) [] (fun f vs => PySem.call f vs)) : PySem.Challenge.rw_putonlyif_k22_whole_steps_of_any_state.Holds := by
  w_on; o_law
  refine HandSHeadRun.head_any (r := R) (q := qv) (H := hookM) (ob := ob) (M := 8000) (loose := loose) (d := HandSHeadRun.topDef R.prog 139) (kwd := []) ob_eq (by kernel_rfl) (fun s => by kernel_rfl) run (by kernel_rfl) (by kernel_rfl) (by kernel_rfl) (by rfl) (by first | assumption | decide +kernel) (by decide +kernel) ⟨rfl, rfl, rfl, rfl, rfl, by decide +kernel⟩ ?hw ?hc
  case hw => w_witness2
  case hc => exact call
theorem topN : (HandSHeadRun.topDef R.prog 139).name = ("law" : PySem.Str) := by kernel_rfl
theorem topD : (HandSHeadRun.topDef R.prog 139).params.defaults = [] := by kernel_rfl
theorem topS : (R.prog.main.scope.names.lookup ("super" : PySem.Str)).isSome = false := by kernel_rfl
end PK
namespace PK
open L2 PySem PySem.Spec PyProof.Rows
/-! ## data of the program -/
abbrev Cp := Option (Int × Int × Int × Int)
def cpD : Cp → PyData
  | none => .tuple []
  | some (a, b, c, d) => .tuple [.int a, .int b, .int c, .int d]
theorem shaped_cp (c : Cp) : SeqAt.shaped (cpD c) = true := by
  cases c with
  | none => rfl
  | some t => rfl
abbrev Lt := Option (Int × Cp × Int)
def ltD : Lt → PyData
  | none => .tuple []
  | some (n, c, m) => .tuple [.int n, cpD c, .int m]
theorem shaped_lt (c : Lt) : SeqAt.shaped (ltD c) = true := by
  rcases c with _ | ⟨n, _ | t, m⟩ <;> rfl
section
variable {K : PySem.W.Frag} {H : Hp}
theorem dpa1 {us : List V} {d1 : PyData} (h : DpAll K H us [d1]) : ∃ v1, us = [v1] ∧ Dp K H v1 d1 := by
  cases h with
  | cons h t =>
    cases t
    exact ⟨_, rfl, h⟩
theorem dpa2 {us : List V} {d1 d2 : PyData} (h : DpAll K H us [d1, d2]) : ∃ v1 v2, us = [v1, v2] ∧ Dp K H v1 d1 ∧ Dp K H v2 d2 := by
  cases h with
  | cons h t =>
    obtain ⟨v, rfl, h2⟩ := dpa1 t
    exact ⟨_, v, rfl, h, h2⟩
theorem dpa3 {us : List V} {d1 d2 d3 : PyData} (h : DpAll K H us [d1, d2, d3]) : ∃ v1 v2 v3, us = [v1, v2, v3] ∧ Dp K H v1 d1 ∧ Dp K H v2 d2 ∧ Dp K H v3 d3 := by
  cases h with
  | cons h t =>
    obtain ⟨v, u, rfl, h2, h3⟩ := dpa2 t
    exact ⟨_, v, u, rfl, h, h2, h3⟩
theorem dpa4 {us : List V} {d1 d2 d3 d4 : PyData} (h : DpAll K H us [d1, d2, d3, d4]) : ∃ v1 v2 v3 v4, us = [v1, v2, v3, v4] ∧ Dp K H v1 d1 ∧ Dp K H v2 d2 ∧ Dp K H v3 d3 ∧ Dp K H v4 d4 := by
  cases h with
  | cons h t =>
    obtain ⟨v, u, z, rfl, h2, h3, h4⟩ := dpa3 t
    exact ⟨_, v, u, z, rfl, h, h2, h3, h4⟩
theorem dpa7 {us : List V} {d1 d2 d3 d4 d5 d6 d7 : PyData} (h : DpAll K H us [d1, d2, d3, d4, d5, d6, d7]) : ∃ v1 v2 v3 v4 v5 v6 v7, us = [v1, v2, v3, v4, v5, v6, v7] ∧ Dp K H v1 d1 ∧ Dp K H v2 d2 ∧ Dp K H v3 d3 ∧ Dp K H v4 d4 ∧ Dp K H v5 d5 ∧ Dp K H v6 d6 ∧ Dp K H v7 d7 := by
  cases h with
  | cons h t =>
    cases t with
    | cons h2 t =>
      cases t with
      | cons h3 t =>
        obtain ⟨v, u, z, o, rfl, h4, h5, h6, h7⟩ := dpa4 t
        exact ⟨_, _, _, v, u, z, o, rfl, h, h2, h3, h4, h5, h6, h7⟩
end
theorem vxs1' : True := trivial
/-! ## what the program's defs reckon -/
def isThere (s : Str) : Bool := memS s [.str "fresh", .str "there"]
def serverAfter (s a : Str) : Str := if a = "take" then (if isThere s = true then "gone" else s) else if a = "tick" then (if s = "fresh" then "there" else s) else "fresh"
def copyAfter (s : Str) (c : Cp) (a : Str) : Cp := match c with
  | none => none
  | some (x, l, t, n) => if a = "tick" then some (x, l, t, 0) else if a = "take" then some (0, 0, 0, n) else some (0, if (decide (a = "small") && isThere s) = true then l else 0, n, n)
def matchesC (c : Cp) (k : Str) : Bool := match c with
  | none => false
  | some (x, l, t, _) => if k = "tag" then decide (x = 1) else if k = "look" then decide (l = 1) else decide (t = 1)
def inPlaces (k : Str) : Bool := memS k [.str "tag", .str "look", .str "stamp"]
def isLeftOut (c : Cp) (k : Str) : Bool := decide (k = "plain") || (inPlaces k && c.isNone)
def readBy (s : Str) (c : Cp) (k : Str) : Str := if isThere s = true then (if isLeftOut c k = true then "got" else if matchesC c k = true then "unchanged" else "got") else "absent"
def doesHold (s : Str) (c : Cp) (k : Str) : Bool := if k = "there" then isThere s else if k = "none" then !isThere s else isLeftOut c k || matchesC c k
def putBy (s : Str) (c : Cp) (k : Str) : Str := if doesHold s c k = true then "yes" else "no"
def takeBy (s : Str) (c : Cp) (k : Str) : Str := if isThere s = true then (if doesHold s c k = true then "yes" else "no") else if isLeftOut c k = true then "absent" else "no"
/-- the conditions upon a copy -/
def CondOk (k : Str) : Prop := k = "plain" ∨ k = "tag" ∨ k = "look" ∨ k = "stamp" ∨ k = "there" ∨ k = "none"
section
variable {P : Program} {w : World} {K : PySem.W.Frag} {mg : Str → Option Value} {base : Heap} (T : Txt w K mg)
include T
def pre_is_one_of (xs : List Dx) (r : PyData) : Prop := ∃ (s : Str) (ds : List PyData), xs = [.d (.str s), .d (.tuple ds)] ∧ (ds.all (fun d => (strD d).isSome) = true) ∧ r = .bool (memS s ds)
theorem f_is_one_of : FnC P w K mg base 1 "is_one_of" (Spf K pre_is_one_of) := by
  refine fnC_pure (N := ["value", "words"]) (ps := ["value", "words"]) (h_is_one_of T) (m_is_one_of T) ⟨rfl, rfl, rfl, by decide +kernel, rfl, by decide +kernel, by decide +kernel⟩ (fun _ _ _ _ _ _ us hl => match us, hl with | [_, _], _ => rfl) (fun xs r h => by
    obtain ⟨_, _, rfl, _⟩ := h
    rfl) ?_
  intro Y cdv A outer s_ H vs xs r Q E hY F hv hp hq
  subst hY
  obtain ⟨s, ds, rfl, hc, rfl⟩ := hp
  obtain ⟨v0_, v1_, rfl, h0, h1⟩ := vxs2 hv
  show DSs _ _ [some v0_, some v1_] _ _
  exact ds_ret (de_and (de_isi .str F (n_isinstance T) (n_str T) (de_v 0 h0)) fun hb1 => (de_one (de_cmp (de_v 0 h0) (de_v 1 h1) (by first | exact cm_inS F | exact cm_inS F (by assumption) | exact cm_inD F (by first | rfl | exact shaped_cp _) (by first | rfl | assumption))))) hq (by first | rfl | (simp_all [bif_str]; done))
def pre_is_there (xs : List Dx) (r : PyData) : Prop := ∃ (s : Str), xs = [.d (.str s)] ∧ (True) ∧ r = .bool (isThere s)
theorem f_is_there : FnC P w K mg base 1 "is_there" (Spf K pre_is_there) := by
  refine fnC_pure (N := ["server"]) (ps := ["server"]) (h_is_there T) (m_is_there T) ⟨rfl, rfl, rfl, by decide +kernel, rfl, by decide +kernel, by decide +kernel⟩ (fun _ _ _ _ _ _ us hl => match us, hl with | [_], _ => rfl) (fun xs r h => by
    obtain ⟨_, rfl, _⟩ := h
    rfl) ?_
  intro Y cdv A outer s_ H vs xs r Q E hY F hv hp hq
  subst hY
  obtain ⟨s, rfl, hc, rfl⟩ := hp
  obtain ⟨v0_, rfl, h0⟩ := vxs1 hv
  show DSs _ _ [some v0_] _ _
  exact ds_ret (de_cmp (de_v 0 h0) (de_tup (xa_d (de_g F (g_FRESH T)) (xa_d (de_g F (g_THERE T)) xa_nil))) (by first | exact cm_inS F | exact cm_inS F (by assumption) | exact cm_inD F (by first | rfl | exact shaped_cp _) (by first | rfl | assumption))) hq (by first | rfl | (simp_all [bif_str]; done))
def pre_need_server (xs : List Dx) (r : PyData) : Prop := ∃ (s : Str), xs = [.d (.str s)] ∧ (memS s [.str "fresh", .str "gone", .str "never", .str "there"] = true) ∧ r = .none
theorem f_need_server : FnC P w K mg base 2 "need_server" (Spf K pre_need_server) := by
  refine fnC_pure (N := ["value"]) (ps := ["value"]) (h_need_server T) (m_need_server T) ⟨rfl, rfl, rfl, by decide +kernel, rfl, by decide +kernel, by decide +kernel⟩ (fun _ _ _ _ _ _ us hl => match us, hl with | [_], _ => rfl) (fun xs r h => by
    obtain ⟨_, rfl, _⟩ := h
    rfl) ?_
  intro Y cdv A outer s_ H vs xs r Q E hY F hv hp hq
  subst hY
  obtain ⟨s, rfl, hc, rfl⟩ := hp
  obtain ⟨v0_, rfl, h0⟩ := vxs1 hv
  show DSs _ _ [some v0_] _ _
  refine ds_guard (DT.is (dt_not (dt_e (de_f F (f_is_one_of T) (xa_d (de_v 0 h0) (xa_d (de_g F (g_SERVERS T)) xa_nil)) ⟨_, _, rfl, rfl, rfl⟩))) (by simpa using hc)) fun H1 e1 => ?_
  replace h0 := dp_up (up_of e1) _ _ h0
  replace hq := hq.up e1
  exact ds_nil (hq _ _ (Same.refl _) .non)
def pre_server_after (xs : List Dx) (r : PyData) : Prop := ∃ (s : Str) (a : Str), xs = [.d (.str s), .d (.str a)] ∧ (True) ∧ r = .str (serverAfter s a)
theorem f_server_after : FnC P w K mg base 2 "server_after" (Spf K pre_server_after) := by
  refine fnC_pure (N := ["server", "act"]) (ps := ["server", "act"]) (h_server_after T) (m_server_after T) ⟨rfl, rfl, rfl, by decide +kernel, rfl, by decide +kernel, by decide +kernel⟩ (fun _ _ _ _ _ _ us hl => match us, hl with | [_, _], _ => rfl) (fun xs r h => by
    obtain ⟨_, _, rfl, _⟩ := h
    rfl) ?_
  intro Y cdv A outer s_ H vs xs r Q E hY F hv hp hq
  subst hY
  obtain ⟨s, a, rfl, hc, rfl⟩ := hp
  obtain ⟨v0_, v1_, rfl, h0, h1⟩ := vxs2 hv
  show DSs _ _ [some v0_, some v1_] _ _
  refine ds_if (dt_cmp (de_v 1 h1) (de_g F (g_TAKE T)) (by first | exact cm_eqs | exact cm_eqi | exact cm_eqb | exact cm_eqD F (by first | rfl | exact shaped_cp _ | exact shaped_lt _) (by first | rfl | exact shaped_cp _))) (fun hb1 H1 e1 => ?_) (fun hb1 H1 e1 => ?_)
  · try first | exact Bool.noConfusion (show false = true from hb1) | exact absurd hb1 (by decide)
    all_goals
      (replace h0 := dp_up (up_of e1) _ _ h0
       replace h1 := dp_up (up_of e1) _ _ h1
       replace hq := hq.up e1
       exact ds_ret (de_if (dt_e (de_f F (f_is_there T) (xa_d (de_v 0 h0) xa_nil) ⟨_, rfl, by first | trivial | assumption | omega | decide | simp_all, rfl⟩)) (fun hb2 => (de_g F (g_GONE T))) fun hb2 => (de_v 0 h0)) hq (by first | rfl | (simp_all [serverAfter, bif_str]; done) | (cases hz : isThere s <;> simp_all [serverAfter]; done) | (cases hz : decide (s = "fresh") <;> simp_all [serverAfter]; done)))
  · try first | exact Bool.noConfusion (show true = false from hb1) | exact absurd hb1 (by decide)
    all_goals
      (replace h0 := dp_up (up_of e1) _ _ h0
       replace h1 := dp_up (up_of e1) _ _ h1
       replace hq := hq.up e1
       refine ds_if (dt_cmp (de_v 1 h1) (de_g F (g_TICK T)) (by first | exact cm_eqs | exact cm_eqi | exact cm_eqb | exact cm_eqD F (by first | rfl | exact shaped_cp _ | exact shaped_lt _) (by first | rfl | exact shaped_cp _))) (fun hb3 H3 e3 => ?_) (fun hb3 H3 e3 => ?_)
       · try first | exact Bool.noConfusion (show false = true from hb3) | exact absurd hb3 (by decide)
         all_goals
           (replace h0 := dp_up (up_of e3) _ _ h0
            replace h1 := dp_up (up_of e3) _ _ h1
            replace hq := hq.up e3
            exact ds_ret (de_if (dt_cmp (de_v 0 h0) (de_g F (g_FRESH T)) (by first | exact cm_eqs | exact cm_eqi | exact cm_eqb | exact cm_eqD F (by first | rfl | exact shaped_cp _ | exact shaped_lt _) (by first | rfl | exact shaped_cp _))) (fun hb4 => (de_g F (g_THERE T))) fun hb4 => (de_v 0 h0)) hq (by first | rfl | (simp_all [serverAfter, bif_str]; done) | (cases hz : isThere s <;> simp_all [serverAfter]; done) | (cases hz : decide (s = "fresh") <;> simp_all [serverAfter]; done)))
       · try first | exact Bool.noConfusion (show true = false from hb3) | exact absurd hb3 (by decide)
         all_goals
           (replace h0 := dp_up (up_of e3) _ _ h0
            replace h1 := dp_up (up_of e3) _ _ h1
            replace hq := hq.up e3
            exact ds_ret (de_g F (g_FRESH T)) hq (by first | rfl | (simp_all [serverAfter, bif_str]; done) | (cases hz : isThere s <;> simp_all [serverAfter]; done) | (cases hz : decide (s = "fresh") <;> simp_all [serverAfter]; done))))
def pre_copy_after (xs : List Dx) (r : PyData) : Prop := ∃ (s : Str) (c : Cp) (a : Str), xs = [.d (.str s), .d (cpD c), .d (.str a)] ∧ (True) ∧ r = cpD (copyAfter s c a)
theorem f_copy_after : FnC P w K mg base 2 "copy_after" (Spf K pre_copy_after) := by
  refine fnC_pure (N := ["server", "copy", "act", "same", "look", "stamp", "now"]) (ps := ["server", "copy", "act"]) (h_copy_after T) (m_copy_after T) ⟨rfl, rfl, rfl, by decide +kernel, rfl, by decide +kernel, by decide +kernel⟩ (fun _ _ _ _ _ _ us hl => match us, hl with | [_, _, _], _ => rfl) (fun xs r h => by
    obtain ⟨_, _, _, rfl, _⟩ := h
    rfl) ?_
  intro Y cdv A outer s_ H vs xs r Q E hY F hv hp hq
  subst hY
  obtain ⟨s, c, a, rfl, hc, rfl⟩ := hp
  obtain ⟨v0_, v1_, v2_, rfl, h0, h1, h2⟩ := vxs3 hv
  show DSs _ _ [some v0_, some v1_, some v2_, _, _, _, _] _ _
  (rcases c with _ | ⟨x, l, t, n⟩) <;> (
    refine ds_if (dt_cmp (de_v 1 h1) (de_tup xa_nil) (by first | exact cm_eqs | exact cm_eqi | exact cm_eqb | exact cm_eqD F (by first | rfl | exact shaped_cp _ | exact shaped_lt _) (by first | rfl | exact shaped_cp _))) (fun hb1 H1 e1 => ?_) (fun hb1 H1 e1 => ?_)
    · try first | exact Bool.noConfusion (show false = true from hb1) | exact absurd hb1 (by decide)
      all_goals
        (replace h0 := dp_up (up_of e1) _ _ h0
         replace h1 := dp_up (up_of e1) _ _ h1
         replace h2 := dp_up (up_of e1) _ _ h2
         replace hq := hq.up e1
         exact ds_ret (de_tup xa_nil) hq (by rfl))
    · try first | exact Bool.noConfusion (show true = false from hb1) | exact absurd hb1 (by decide)
      all_goals
        (replace h0 := dp_up (up_of e1) _ _ h0
         replace h1 := dp_up (up_of e1) _ _ h1
         replace h2 := dp_up (up_of e1) _ _ h2
         replace hq := hq.up e1
         refine ds_unp F (de_v 1 h1) (gn_cons F 3 (gn_cons F 4 (gn_cons F 5 (gn_cons F 6 gn_nil)))) fun us2 H2 e2 hu2 => ?_
         replace h0 := dp_up (up_of e2) _ _ h0
         replace h1 := dp_up (up_of e2) _ _ h1
         replace h2 := dp_up (up_of e2) _ _ h2
         replace hq := hq.up e2
         obtain ⟨v3_, v4_, v5_, v6_, rfl, h3, h4, h5, h6⟩ := dpa4 hu2
         show DSs _ _ [some v0_, some v1_, some v2_, some v3_, some v4_, some v5_, some v6_] _ _
         refine ds_if (dt_cmp (de_v 2 h2) (de_g F (g_TICK T)) (by first | exact cm_eqs | exact cm_eqi | exact cm_eqb | exact cm_eqD F (by first | rfl | exact shaped_cp _ | exact shaped_lt _) (by first | rfl | exact shaped_cp _))) (fun hb3 H3 e3 => ?_) (fun hb3 H3 e3 => ?_)
         · try first | exact Bool.noConfusion (show false = true from hb3) | exact absurd hb3 (by decide)
           all_goals
             (replace h0 := dp_up (up_of e3) _ _ h0
              replace h1 := dp_up (up_of e3) _ _ h1
              replace h2 := dp_up (up_of e3) _ _ h2
              replace h3 := dp_up (up_of e3) _ _ h3
              replace h4 := dp_up (up_of e3) _ _ h4
              replace h5 := dp_up (up_of e3) _ _ h5
              replace h6 := dp_up (up_of e3) _ _ h6
              replace hq := hq.up e3
              exact ds_ret (de_tup (xa_d (de_v 3 h3) (xa_d (de_v 4 h4) (xa_d (de_v 5 h5) (xa_d de_int xa_nil))))) hq (by simp_all [copyAfter, cpD, unD]))
         · try first | exact Bool.noConfusion (show true = false from hb3) | exact absurd hb3 (by decide)
           all_goals
             (replace h0 := dp_up (up_of e3) _ _ h0
              replace h1 := dp_up (up_of e3) _ _ h1
              replace h2 := dp_up (up_of e3) _ _ h2
              replace h3 := dp_up (up_of e3) _ _ h3
              replace h4 := dp_up (up_of e3) _ _ h4
              replace h5 := dp_up (up_of e3) _ _ h5
              replace h6 := dp_up (up_of e3) _ _ h6
              replace hq := hq.up e3
              refine ds_if (dt_cmp (de_v 2 h2) (de_g F (g_TAKE T)) (by first | exact cm_eqs | exact cm_eqi | exact cm_eqb | exact cm_eqD F (by first | rfl | exact shaped_cp _ | exact shaped_lt _) (by first | rfl | exact shaped_cp _))) (fun hb4 H4 e4 => ?_) (fun hb4 H4 e4 => ?_)
              · try first | exact Bool.noConfusion (show false = true from hb4) | exact absurd hb4 (by decide)
                all_goals
                  (replace h0 := dp_up (up_of e4) _ _ h0
                   replace h1 := dp_up (up_of e4) _ _ h1
                   replace h2 := dp_up (up_of e4) _ _ h2
                   replace h3 := dp_up (up_of e4) _ _ h3
                   replace h4 := dp_up (up_of e4) _ _ h4
                   replace h5 := dp_up (up_of e4) _ _ h5
                   replace h6 := dp_up (up_of e4) _ _ h6
                   replace hq := hq.up e4
                   exact ds_ret (de_tup (xa_d de_int (xa_d de_int (xa_d de_int (xa_d (de_v 6 h6) xa_nil))))) hq (by simp_all [copyAfter, cpD, unD]))
              · try first | exact Bool.noConfusion (show true = false from hb4) | exact absurd hb4 (by decide)
                all_goals
                  (replace h0 := dp_up (up_of e4) _ _ h0
                   replace h1 := dp_up (up_of e4) _ _ h1
                   replace h2 := dp_up (up_of e4) _ _ h2
                   replace h3 := dp_up (up_of e4) _ _ h3
                   replace h4 := dp_up (up_of e4) _ _ h4
                   replace h5 := dp_up (up_of e4) _ _ h5
                   replace h6 := dp_up (up_of e4) _ _ h6
                   replace hq := hq.up e4
                   exact ds_ret (de_tup (xa_d de_int (xa_d (de_if (dt_w (dw_and (dt_cmp (de_v 2 h2) (de_g F (g_SMALL T)) (by first | exact cm_eqs | exact cm_eqi | exact cm_eqb | exact cm_eqD F (by first | rfl | exact shaped_cp _ | exact shaped_lt _) (by first | rfl | exact shaped_cp _))) fun hb6 => (dw_one_and (dt_e (de_f F (f_is_there T) (xa_d (de_v 0 h0) xa_nil) ⟨_, rfl, by first | trivial | assumption | omega | decide | simp_all, rfl⟩))))) (fun hb5 => (de_v 4 h4)) fun hb5 => de_int) (xa_d (de_v 6 h6) (xa_d (de_v 6 h6) xa_nil))))) hq (by (by_cases ha : a = "small" <;> cases hz : isThere s <;> simp_all [copyAfter, cpD, unD]))))))
def pre_matches (xs : List Dx) (r : PyData) : Prop := ∃ (c : Int × Int × Int × Int) (k : Str), xs = [.d (cpD (some c)), .d (.str k)] ∧ (k = "tag" ∨ k = "look" ∨ k = "stamp") ∧ r = .bool (matchesC (some c) k)
theorem f_matches : FnC P w K mg base 1 "matches" (Spf K pre_matches) := by
  refine fnC_pure (N := ["copy", "condition"]) (ps := ["copy", "condition"]) (h_matches T) (m_matches T) ⟨rfl, rfl, rfl, by decide +kernel, rfl, by decide +kernel, by decide +kernel⟩ (fun _ _ _ _ _ _ us hl => match us, hl with | [_, _], _ => rfl) (fun xs r h => by
    obtain ⟨_, _, rfl, _⟩ := h
    rfl) ?_
  intro Y cdv A outer s_ H vs xs r Q E hY F hv hp hq
  subst hY
  obtain ⟨c, k, rfl, hc, rfl⟩ := hp
  obtain ⟨v0_, v1_, rfl, h0, h1⟩ := vxs2 hv
  show DSs _ _ [some v0_, some v1_] _ _
  (obtain ⟨x, l, t, n⟩ := c; rcases hc with rfl | rfl | rfl) <;> (
    exact ds_ret (de_cmp (de_ixT F (de_v 0 h0) (de_atK F (de_v 1 h1) (m_PLACES T) (by first | exact t_PLACES_tag T | exact t_PLACES_look T | exact t_PLACES_stamp T | exact t_ANSWERS_read T | exact t_ANSWERS_put T | exact t_ANSWERS_take T | exact t_CONDITIONS_read T | exact t_CONDITIONS_put T | exact t_CONDITIONS_take T | assumption))) de_int (by first | exact cm_eqs | exact cm_eqi | exact cm_eqb | exact cm_eqD F (by first | rfl | exact shaped_cp _ | exact shaped_lt _) (by first | rfl | exact shaped_cp _))) hq (by first | rfl | (simp_all [matchesC, bif_str]; done)))
def pre_is_left_out (xs : List Dx) (r : PyData) : Prop := ∃ (c : Cp) (k : Str), xs = [.d (cpD c), .d (.str k)] ∧ (CondOk k) ∧ r = .bool (isLeftOut c k)
theorem f_is_left_out : FnC P w K mg base 1 "is_left_out" (Spf K pre_is_left_out) := by
  refine fnC_pure (N := ["copy", "condition"]) (ps := ["copy", "condition"]) (h_is_left_out T) (m_is_left_out T) ⟨rfl, rfl, rfl, by decide +kernel, rfl, by decide +kernel, by decide +kernel⟩ (fun _ _ _ _ _ _ us hl => match us, hl with | [_, _], _ => rfl) (fun xs r h => by
    obtain ⟨_, _, rfl, _⟩ := h
    rfl) ?_
  intro Y cdv A outer s_ H vs xs r Q E hY F hv hp hq
  subst hY
  obtain ⟨c, k, rfl, hc, rfl⟩ := hp
  obtain ⟨v0_, v1_, rfl, h0, h1⟩ := vxs2 hv
  show DSs _ _ [some v0_, some v1_] _ _
  (rcases c with _ | c <;> rcases hc with rfl | rfl | rfl | rfl | rfl | rfl) <;> (
    exact ds_ret (de_or (de_cmp (de_v 1 h1) (de_g F (g_PLAIN T)) (by first | exact cm_eqs | exact cm_eqi | exact cm_eqb | exact cm_eqD F (by first | rfl | exact shaped_cp _ | exact shaped_lt _) (by first | rfl | exact shaped_cp _))) fun hb1 => (de_one (de_and (de_inK F (de_v 1 h1) (m_PLACES T) (by first | exact (t_PLACES_tag T).i | exact (t_PLACES_look T).i | exact (t_PLACES_stamp T).i | exact (t_PLACES_plain T).i | exact (t_PLACES_there T).i | exact (t_PLACES_none T).i | exact (t_CONDITIONS_read T).i | exact (t_CONDITIONS_put T).i | exact (t_CONDITIONS_take T).i)) fun hb2 => (de_one (de_cmp (de_v 0 h0) (de_tup xa_nil) (by first | exact cm_eqs | exact cm_eqi | exact cm_eqb | exact cm_eqD F (by first | rfl | exact shaped_cp _ | exact shaped_lt _) (by first | rfl | exact shaped_cp _))))))) hq (by first | rfl | (simp_all [isLeftOut, inPlaces, memS, bif_str]; done)))
end
end PK
namespace PK
open L2 PySem PySem.Spec PyProof.Rows
/-! ## steps -/
inductive Stp where
  | read (k : Str) (a b c d e : Int)
  | put (k z : Str) (a b c : Int)
  | take (k : Str) (a b c d : Int)
  | forget (n : Int)
  | fin (w : Str)
def Stp.d : Stp → PyData
  | .read k a b c d e => .tuple [.str "read", .str k, .int a, .int b, .int c, .int d, .int e]
  | .put k z a b c => .tuple [.str "put", .str k, .str z, .int a, .int b, .int c]
  | .take k a b c d => .tuple [.str "take", .str k, .int a, .int b, .int c, .int d]
  | .forget n => .tuple [.str "forget", .int n]
  | .fin w => .tuple [.str "end", .str w]
def NxOk (m i : Int) : Prop := 0 ≤ i ∧ i < m
def ReadC (k : Str) : Prop := k = "look" ∨ k = "plain" ∨ k = "stamp" ∨ k = "tag"
def PutC (k : Str) : Prop := k = "none" ∨ k = "plain" ∨ k = "stamp" ∨ k = "tag" ∨ k = "there"
def TakeC (k : Str) : Prop := k = "plain" ∨ k = "stamp" ∨ k = "tag" ∨ k = "there"
def StpOk (m : Int) : Stp → Prop
  | .read k a b c d e => ReadC k ∧ NxOk m a ∧ NxOk m b ∧ NxOk m c ∧ NxOk m d ∧ NxOk m e
  | .put k z a b c => PutC k ∧ (z = "small" ∨ z = "great") ∧ NxOk m a ∧ NxOk m b ∧ NxOk m c
  | .take k a b c d => TakeC k ∧ NxOk m a ∧ NxOk m b ∧ NxOk m c ∧ NxOk m d
  | .forget n => NxOk m n
  | .fin w => w = "yes" ∨ w = "no" ∨ w = "open"
def AllNx (m : Int) (ds : List PyData) : Prop := ∀ d ∈ ds, ∃ i, d = .int i ∧ NxOk m i
theorem allNx_nil {m : Int} : AllNx m [] := fun d h => by cases h
theorem allNx_cons {m i : Int} {ds : List PyData} (h : NxOk m i) (r : AllNx m ds) : AllNx m (.int i :: ds) := fun d hd => by
  cases hd with
  | head => exact ⟨i, rfl, h⟩
  | tail _ hd => exact r d hd
section
variable {P : Program} {w : World} {K : PySem.W.Frag} {mg : Str → Option Value} {base : Heap} (T : Txt w K mg)
include T
def pre_read_by (xs : List Dx) (r : PyData) : Prop := ∃ (s : Str) (c : Cp) (k : Str), xs = [.d (.str s), .d (cpD c), .d (.str k)] ∧ (ReadC k) ∧ r = .str (readBy s c k)
theorem f_read_by : FnC P w K mg base 2 "read_by" (Spf K pre_read_by) := by
  refine fnC_pure (N := ["server", "copy", "condition"]) (ps := ["server", "copy", "condition"]) (h_read_by T) (m_read_by T) ⟨rfl, rfl, rfl, by decide +kernel, rfl, by decide +kernel, by decide +kernel⟩ (fun _ _ _ _ _ _ us hl => match us, hl with | [_, _, _], _ => rfl) (fun xs r h => by
    obtain ⟨_, _, _, rfl, _⟩ := h
    rfl) ?_
  intro Y cdv A outer s_ H vs xs r Q E hY F hv hp hq
  subst hY
  obtain ⟨s, c, k, rfl, hc, rfl⟩ := hp
  obtain ⟨v0_, v1_, v2_, rfl, h0, h1, h2⟩ := vxs3 hv
  show DSs _ _ [some v0_, some v1_, some v2_] _ _
  (rcases c with _ | c <;> rcases hc with rfl | rfl | rfl | rfl) <;> (
    refine ds_if (dt_not (dt_e (de_f F (f_is_there T) (xa_d (de_v 0 h0) xa_nil) ⟨_, rfl, by first | trivial | assumption | omega | decide | simp_all, rfl⟩))) (fun hb1 H1 e1 => ?_) (fun hb1 H1 e1 => ?_)
    · try first | exact Bool.noConfusion (show false = true from hb1) | exact absurd hb1 (by decide)
      all_goals
        (replace h0 := dp_up (up_of e1) _ _ h0
         replace h1 := dp_up (up_of e1) _ _ h1
         replace h2 := dp_up (up_of e1) _ _ h2
         replace hq := hq.up e1
         exact ds_ret (de_g F (g_ABSENT T)) hq (by first | rfl | (simp_all [readBy, isLeftOut, inPlaces, memS, bif_str]; done)))
    · try first | exact Bool.noConfusion (show true = false from hb1) | exact absurd hb1 (by decide)
      all_goals
        (replace h0 := dp_up (up_of e1) _ _ h0
         replace h1 := dp_up (up_of e1) _ _ h1
         replace h2 := dp_up (up_of e1) _ _ h2
         replace hq := hq.up e1
         refine ds_if (dt_e (de_f F (f_is_left_out T) (xa_d (de_v 1 h1) (xa_d (de_v 2 h2) xa_nil)) ⟨_, _, rfl, by simp [CondOk], rfl⟩)) (fun hb2 H2 e2 => ?_) (fun hb2 H2 e2 => ?_)
         · try first | exact Bool.noConfusion (show false = true from hb2) | exact absurd hb2 (by decide)
           all_goals
             (replace h0 := dp_up (up_of e2) _ _ h0
              replace h1 := dp_up (up_of e2) _ _ h1
              replace h2 := dp_up (up_of e2) _ _ h2
              replace hq := hq.up e2
              exact ds_ret (de_g F (g_GOT T)) hq (by first | rfl | (simp_all [readBy, isLeftOut, inPlaces, memS, bif_str]; done)))
         · try first | exact Bool.noConfusion (show true = false from hb2) | exact absurd hb2 (by decide)
           all_goals
             (replace h0 := dp_up (up_of e2) _ _ h0
              replace h1 := dp_up (up_of e2) _ _ h1
              replace h2 := dp_up (up_of e2) _ _ h2
              replace hq := hq.up e2
              exact ds_ret (de_if (dt_e (by first | exact (de_f F (f_matches T) (xa_d (de_v 1 h1) (xa_d (de_v 2 h2) xa_nil)) ⟨_, _, rfl, by first | trivial | assumption | omega | decide | simp_all, rfl⟩) | exact de_bl)) (fun hb3 => (de_g F (g_UNCHANGED T))) fun hb3 => (de_g F (g_GOT T))) hq (by first | rfl | (simp_all [readBy, isLeftOut, inPlaces, memS, bif_str]; done)))))
def pre_does_hold (xs : List Dx) (r : PyData) : Prop := ∃ (s : Str) (c : Cp) (k : Str), xs = [.d (.str s), .d (cpD c), .d (.str k)] ∧ (CondOk k) ∧ r = .bool (doesHold s c k)
theorem f_does_hold : FnC P w K mg base 2 "does_hold" (Spf K pre_does_hold) := by
  refine fnC_pure (N := ["server", "copy", "condition"]) (ps := ["server", "copy", "condition"]) (h_does_hold T) (m_does_hold T) ⟨rfl, rfl, rfl, by decide +kernel, rfl, by decide +kernel, by decide +kernel⟩ (fun _ _ _ _ _ _ us hl => match us, hl with | [_, _, _], _ => rfl) (fun xs r h => by
    obtain ⟨_, _, _, rfl, _⟩ := h
    rfl) ?_
  intro Y cdv A outer s_ H vs xs r Q E hY F hv hp hq
  subst hY
  obtain ⟨s, c, k, rfl, hc, rfl⟩ := hp
  obtain ⟨v0_, v1_, v2_, rfl, h0, h1, h2⟩ := vxs3 hv
  show DSs _ _ [some v0_, some v1_, some v2_] _ _
  (rcases c with _ | c <;> rcases hc with rfl | rfl | rfl | rfl | rfl | rfl) <;> (
    refine ds_if (dt_cmp (de_v 2 h2) (de_g F (g_IF_THERE T)) (by first | exact cm_eqs | exact cm_eqi | exact cm_eqb | exact cm_eqD F (by first | rfl | exact shaped_cp _ | exact shaped_lt _) (by first | rfl | exact shaped_cp _))) (fun hb1 H1 e1 => ?_) (fun hb1 H1 e1 => ?_)
    · try first | exact Bool.noConfusion (show false = true from hb1) | exact absurd hb1 (by decide)
      all_goals
        (replace h0 := dp_up (up_of e1) _ _ h0
         replace h1 := dp_up (up_of e1) _ _ h1
         replace h2 := dp_up (up_of e1) _ _ h2
         replace hq := hq.up e1
         exact ds_ret (de_f F (f_is_there T) (xa_d (de_v 0 h0) xa_nil) ⟨_, rfl, by first | trivial | assumption | omega | decide | simp_all, rfl⟩) hq (by first | rfl | (simp_all [doesHold, isLeftOut, inPlaces, memS, bif_str]; done)))
    · try first | exact Bool.noConfusion (show true = false from hb1) | exact absurd hb1 (by decide)
      all_goals
        (replace h0 := dp_up (up_of e1) _ _ h0
         replace h1 := dp_up (up_of e1) _ _ h1
         replace h2 := dp_up (up_of e1) _ _ h2
         replace hq := hq.up e1
         refine ds_if (dt_cmp (de_v 2 h2) (de_g F (g_IF_NONE T)) (by first | exact cm_eqs | exact cm_eqi | exact cm_eqb | exact cm_eqD F (by first | rfl | exact shaped_cp _ | exact shaped_lt _) (by first | rfl | exact shaped_cp _))) (fun hb2 H2 e2 => ?_) (fun hb2 H2 e2 => ?_)
         · try first | exact Bool.noConfusion (show false = true from hb2) | exact absurd hb2 (by decide)
           all_goals
             (replace h0 := dp_up (up_of e2) _ _ h0
              replace h1 := dp_up (up_of e2) _ _ h1
              replace h2 := dp_up (up_of e2) _ _ h2
              replace hq := hq.up e2
              exact ds_ret (de_not (de_f F (f_is_there T) (xa_d (de_v 0 h0) xa_nil) ⟨_, rfl, by first | trivial | assumption | omega | decide | simp_all, rfl⟩)) hq (by first | rfl | (simp_all [doesHold, isLeftOut, inPlaces, memS, bif_str]; done)))
         · try first | exact Bool.noConfusion (show true = false from hb2) | exact absurd hb2 (by decide)
           all_goals
             (replace h0 := dp_up (up_of e2) _ _ h0
              replace h1 := dp_up (up_of e2) _ _ h1
              replace h2 := dp_up (up_of e2) _ _ h2
              replace hq := hq.up e2
              exact ds_ret (de_or (de_f F (f_is_left_out T) (xa_d (de_v 1 h1) (xa_d (de_v 2 h2) xa_nil)) ⟨_, _, rfl, by simp [CondOk], rfl⟩) fun hb3 => (de_one (by first | exact (de_f F (f_matches T) (xa_d (de_v 1 h1) (xa_d (de_v 2 h2) xa_nil)) ⟨_, _, rfl, by first | trivial | assumption | omega | decide | simp_all, rfl⟩) | exact (show DE _ _ _ _ _ (.bool false) from False.elim (by simp_all [isLeftOut, inPlaces, memS]))))) hq (by first | rfl | (simp_all [doesHold, isLeftOut, inPlaces, memS, bif_str]; done)))))
def pre_put_by (xs : List Dx) (r : PyData) : Prop := ∃ (s : Str) (c : Cp) (k : Str), xs = [.d (.str s), .d (cpD c), .d (.str k)] ∧ (PutC k) ∧ r = .str (putBy s c k)
theorem f_put_by : FnC P w K mg base 3 "put_by" (Spf K pre_put_by) := by
  refine fnC_pure (N := ["server", "copy", "condition"]) (ps := ["server", "copy", "condition"]) (h_put_by T) (m_put_by T) ⟨rfl, rfl, rfl, by decide +kernel, rfl, by decide +kernel, by decide +kernel⟩ (fun _ _ _ _ _ _ us hl => match us, hl with | [_, _, _], _ => rfl) (fun xs r h => by
    obtain ⟨_, _, _, rfl, _⟩ := h
    rfl) ?_
  intro Y cdv A outer s_ H vs xs r Q E hY F hv hp hq
  subst hY
  obtain ⟨s, c, k, rfl, hc, rfl⟩ := hp
  obtain ⟨v0_, v1_, v2_, rfl, h0, h1, h2⟩ := vxs3 hv
  show DSs _ _ [some v0_, some v1_, some v2_] _ _
  exact ds_ret (de_if (dt_e (de_f F (f_does_hold T) (xa_d (de_v 0 h0) (xa_d (de_v 1 h1) (xa_d (de_v 2 h2) xa_nil))) ⟨_, _, _, rfl, (by unfold PutC at hc; unfold CondOk; rcases hc with rfl | rfl | rfl | rfl | rfl <;> simp), rfl⟩)) (fun hb1 => (de_g F (g_YES T))) fun hb1 => (de_g F (g_NO T))) hq (by first | rfl | (simp_all [putBy, bif_str]; done))
def pre_take_by (xs : List Dx) (r : PyData) : Prop := ∃ (s : Str) (c : Cp) (k : Str), xs = [.d (.str s), .d (cpD c), .d (.str k)] ∧ (TakeC k) ∧ r = .str (takeBy s c k)
theorem f_take_by : FnC P w K mg base 3 "take_by" (Spf K pre_take_by) := by
  refine fnC_pure (N := ["server", "copy", "condition"]) (ps := ["server", "copy", "condition"]) (h_take_by T) (m_take_by T) ⟨rfl, rfl, rfl, by decide +kernel, rfl, by decide +kernel, by decide +kernel⟩ (fun _ _ _ _ _ _ us hl => match us, hl with | [_, _, _], _ => rfl) (fun xs r h => by
    obtain ⟨_, _, _, rfl, _⟩ := h
    rfl) ?_
  intro Y cdv A outer s_ H vs xs r Q E hY F hv hp hq
  subst hY
  obtain ⟨s, c, k, rfl, hc, rfl⟩ := hp
  obtain ⟨v0_, v1_, v2_, rfl, h0, h1, h2⟩ := vxs3 hv
  show DSs _ _ [some v0_, some v1_, some v2_] _ _
  refine ds_if (dt_not (dt_e (de_f F (f_is_there T) (xa_d (de_v 0 h0) xa_nil) ⟨_, rfl, by first | trivial | assumption | omega | decide | simp_all, rfl⟩))) (fun hb1 H1 e1 => ?_) (fun hb1 H1 e1 => ?_)
  · try first | exact Bool.noConfusion (show false = true from hb1) | exact absurd hb1 (by decide)
    all_goals
      (replace h0 := dp_up (up_of e1) _ _ h0
       replace h1 := dp_up (up_of e1) _ _ h1
       replace h2 := dp_up (up_of e1) _ _ h2
       replace hq := hq.up e1
       exact ds_ret (de_if (dt_e (de_f F (f_is_left_out T) (xa_d (de_v 1 h1) (xa_d (de_v 2 h2) xa_nil)) ⟨_, _, rfl, (by unfold TakeC at hc; unfold CondOk; rcases hc with rfl | rfl | rfl | rfl <;> simp), rfl⟩)) (fun hb2 => (de_g F (g_ABSENT T))) fun hb2 => (de_g F (g_NO T))) hq (by first | rfl | (simp_all [takeBy, bif_str]; done)))
  · try first | exact Bool.noConfusion (show true = false from hb1) | exact absurd hb1 (by decide)
    all_goals
      (replace h0 := dp_up (up_of e1) _ _ h0
       replace h1 := dp_up (up_of e1) _ _ h1
       replace h2 := dp_up (up_of e1) _ _ h2
       replace hq := hq.up e1
       exact ds_ret (de_if (dt_e (de_f F (f_does_hold T) (xa_d (de_v 0 h0) (xa_d (de_v 1 h1) (xa_d (de_v 2 h2) xa_nil))) ⟨_, _, _, rfl, (by unfold TakeC at hc; unfold CondOk; rcases hc with rfl | rfl | rfl | rfl <;> simp), rfl⟩)) (fun hb3 => (de_g F (g_YES T))) fun hb3 => (de_g F (g_NO T))) hq (by first | rfl | (simp_all [takeBy, bif_str]; done)))
def pre_is_number (xs : List Dx) (r : PyData) : Prop := ∃ (i : Int) (m : Int), xs = [.d (.int i), .d (.int m)] ∧ (True) ∧ r = .bool (decide (0 ≤ i) && decide (i < m))
theorem f_is_number : FnC P w K mg base 1 "is_number" (Spf K pre_is_number) := by
  refine fnC_pure (N := ["value", "many"]) (ps := ["value", "many"]) (h_is_number T) (m_is_number T) ⟨rfl, rfl, rfl, by decide +kernel, rfl, by decide +kernel, by decide +kernel⟩ (fun _ _ _ _ _ _ us hl => match us, hl with | [_, _], _ => rfl) (fun xs r h => by
    obtain ⟨_, _, rfl, _⟩ := h
    rfl) ?_
  intro Y cdv A outer s_ H vs xs r Q E hY F hv hp hq
  subst hY
  obtain ⟨i, m, rfl, hc, rfl⟩ := hp
  obtain ⟨v0_, v1_, rfl, h0, h1⟩ := vxs2 hv
  show DSs _ _ [some v0_, some v1_] _ _
  exact ds_ret (de_and (de_isi .int F (n_isinstance T) (n_int T) (de_v 0 h0)) fun hb1 => (de_and (de_not (de_isi .bool F (n_isinstance T) (n_bool T) (de_v 0 h0))) fun hb2 => (de_one (de_chain de_int (de_v 0 h0) (de_v 1 h1) cm_le (by first | exact cm_lt | exact cm_lts))))) hq (by first | rfl | (simp_all [bif_str]; done))
def pre_are_bits (xs : List Dx) (r : PyData) : Prop := ∃ (a : Int) (b : Int) (c : Int) (d : Int), xs = [.d (cpD (some (a, b, c, d)))] ∧ (NxOk 2 a ∧ NxOk 2 b ∧ NxOk 2 c ∧ NxOk 2 d) ∧ r = .bool true
theorem f_are_bits : FnC P w K mg base 2 "are_bits" (Spf K pre_are_bits) := by
  refine fnC_pure (N := ["value", "item"]) (ps := ["value"]) (h_are_bits T) (m_are_bits T) ⟨rfl, rfl, rfl, by decide +kernel, rfl, by decide +kernel, by decide +kernel⟩ (fun _ _ _ _ _ _ us hl => match us, hl with | [_], _ => rfl) (fun xs r h => by
    obtain ⟨_, _, _, _, rfl, _⟩ := h
    rfl) ?_
  intro Y cdv A outer s_ H vs xs r Q E hY F hv hp hq
  subst hY
  obtain ⟨a, b, c, d, rfl, hc, rfl⟩ := hp
  obtain ⟨v0_, rfl, h0⟩ := vxs1 hv
  show DSs _ _ [some v0_, _] _ _
  refine ds_guard (DT.is (dt_w (dw_or (dt_not (dt_e (de_isi .tuple F (n_isinstance T) (n_tuple T) (de_v 0 h0)))) fun hb2 => (dw_one_or (dt_cmp (de_len F (n_len T) (de_v 0 h0) (by first | exact .inl rfl | exact .inr rfl)) de_int (by first | exact cm_nes | exact cm_nei | exact cm_neD F (by first | rfl | exact shaped_cp _ | exact shaped_lt _) (by first | rfl | exact shaped_cp _)))))) (by first | rfl | decide | simp_all)) fun H1 e1 => ?_
  replace h0 := dp_up (up_of e1) _ _ h0
  replace hq := hq.up e1
  exact ds_ret (de_allT 1 F (n_all T) (de_v 0 h0) (by intro d v1_ H_ u_ hd h1 F; ((obtain ⟨i, rfl, hi⟩ := allNx_cons hc.1 (allNx_cons hc.2.1 (allNx_cons hc.2.2.1 (allNx_cons hc.2.2.2 allNx_nil))) d hd)); replace h0 := dp_up u_ _ _ h0; exact DE.is (de_and (de_isi .int F (n_isinstance T) (n_int T) (de_v 1 h1)) fun hb3 => (de_and (de_not (de_isi .bool F (n_isinstance T) (n_bool T) (de_v 1 h1))) fun hb4 => (de_one (de_chain de_int (de_v 1 h1) de_int cm_le cm_le)))) (by first | rfl | (obtain ⟨x1, x2⟩ := hi; simp [x1, x2, isiD]; done) | (obtain ⟨x1, x2⟩ := hi; simp [x1, x2, isiD]; omega))) (ok := by intro _; show BlkOk ["value", "item"] (defScope s_are_bits) _ _; exact ⟨rfl, by decide +kernel, by decide +kernel, by decide +kernel, by decide +kernel⟩)) hq (by first | rfl | (simp_all [bif_str]; done))
end
def CpOk (s : Str) : Cp → Prop
  | none => True
  | some t => (s = "fresh" ∧ (t = (0, 0, 0, 0) ∨ t = (0, 0, 1, 1) ∨ t = (0, 1, 0, 0) ∨ t = (0, 1, 1, 1) ∨ t = (1, 1, 1, 1))) ∨ (s = "gone" ∧ (t = (0, 0, 0, 0) ∨ t = (0, 0, 0, 1))) ∨
      (s = "there" ∧ (t = (0, 0, 0, 0) ∨ t = (0, 0, 1, 0) ∨ t = (0, 1, 0, 0) ∨ t = (0, 1, 1, 0) ∨ t = (1, 1, 1, 0)))
section
variable {P : Program} {w : World} {K : PySem.W.Frag} {mg : Str → Option Value} {base : Heap} (T : Txt w K mg)
include T
def pre_is_copy (xs : List Dx) (r : PyData) : Prop := ∃ (s : Str) (c : Cp), xs = [.d (.str s), .d (cpD c)] ∧ (CpOk s c) ∧ r = .bool true
theorem f_is_copy : FnC P w K mg base 3 "is_copy" (Spf K pre_is_copy) := by
  refine fnC_pure (N := ["server", "value"]) (ps := ["server", "value"]) (h_is_copy T) (m_is_copy T) ⟨rfl, rfl, rfl, by decide +kernel, rfl, by decide +kernel, by decide +kernel⟩ (fun _ _ _ _ _ _ us hl => match us, hl with | [_, _], _ => rfl) (fun xs r h => by
    obtain ⟨_, _, rfl, _⟩ := h
    rfl) ?_
  intro Y cdv A outer s_ H vs xs r Q E hY F hv hp hq
  subst hY
  obtain ⟨s, c, rfl, hc, rfl⟩ := hp
  obtain ⟨v0_, v1_, rfl, h0, h1⟩ := vxs2 hv
  show DSs _ _ [some v0_, some v1_] _ _
  ((rcases c with _ | t; rotate_left; rcases hc with ⟨rfl, rfl | rfl | rfl | rfl | rfl⟩ | ⟨rfl, rfl | rfl⟩ | ⟨rfl, rfl | rfl | rfl | rfl | rfl⟩)) <;> (
    exact ds_ret (de_or (de_and (de_isi .tuple F (n_isinstance T) (n_tuple T) (de_v 1 h1)) fun hb2 => (de_one (de_cmp (de_v 1 h1) (de_tup xa_nil) (by first | exact cm_eqs | exact cm_eqi | exact cm_eqb | exact cm_eqD F (by first | rfl | exact shaped_cp _ | exact shaped_lt _) (by first | rfl | exact shaped_cp _))))) fun hb1 => (de_one (by first | exact (de_and (de_f F (f_are_bits T) (xa_d (de_v 1 h1) xa_nil) ⟨_, _, _, _, rfl, (by unfold NxOk; omega), rfl⟩) fun hb3 => (de_one (de_cmp (de_v 1 h1) (de_atK F (de_v 0 h0) (m_STANDINGS T) (by first | exact t_STANDINGS_fresh T | exact t_STANDINGS_gone T | exact t_STANDINGS_there T)) (by first | exact cm_inS F | exact cm_inS F (by assumption) | exact cm_inD F (by first | rfl | exact shaped_cp _) (by first | rfl | assumption))))) | exact (show DE _ _ _ _ _ (.bool false) from Bool.noConfusion (show true = false from hb1))))) hq (by first | rfl | (simp_all [bif_str]; done)))
def pre_is_step (xs : List Dx) (r : PyData) : Prop := ∃ (s : Stp) (m : Int), xs = [.d (s.d), .d (.int m)] ∧ (StpOk m s) ∧ r = .bool true
theorem f_is_step : FnC P w K mg base 2 "is_step" (Spf K pre_is_step) := by
  refine fnC_pure (N := ["value", "many", "nexts", "one"]) (ps := ["value", "many"]) (h_is_step T) (m_is_step T) ⟨rfl, rfl, rfl, by decide +kernel, rfl, by decide +kernel, by decide +kernel⟩ (fun _ _ _ _ _ _ us hl => match us, hl with | [_, _], _ => rfl) (fun xs r h => by
    obtain ⟨_, _, rfl, _⟩ := h
    rfl) ?_
  intro Y cdv A outer s_ H vs xs r Q E hY F hv hp hq
  subst hY
  obtain ⟨s, m, rfl, hc, rfl⟩ := hp
  obtain ⟨v0_, v1_, rfl, h0, h1⟩ := vxs2 hv
  show DSs _ _ [some v0_, some v1_, _, _] _ _
  (rcases s with ⟨k, a, b, c, d, e⟩ | ⟨k, z, a, b, c⟩ | ⟨k, a, b, c, d⟩ | n | w_) <;> (
    refine ds_guard (DT.is (dt_w (dw_or (dt_not (dt_e (de_isi .tuple F (n_isinstance T) (n_tuple T) (de_v 0 h0)))) fun hb3 => (dw_or (dt_cmp (de_len F (n_len T) (de_v 0 h0) (by first | exact .inl rfl | exact .inr rfl)) de_int (by first | exact cm_lt | exact cm_lts)) fun hb2 => (dw_one_or (dt_not (dt_e (de_isi .str F (n_isinstance T) (n_str T) (de_ixT F (de_v 0 h0) de_int)))))))) (by first | rfl | decide | simp_all)) fun H1 e1 => ?_
    replace h0 := dp_up (up_of e1) _ _ h0
    replace h1 := dp_up (up_of e1) _ _ h1
    replace hq := hq.up e1
    refine ds_if (dt_cmp (de_ixT F (de_v 0 h0) de_int) (de_g F (g_END T)) (by first | exact cm_eqs | exact cm_eqi | exact cm_eqb | exact cm_eqD F (by first | rfl | exact shaped_cp _ | exact shaped_lt _) (by first | rfl | exact shaped_cp _))) (fun hb4 H4 e4 => ?_) (fun hb4 H4 e4 => ?_)
    · try first | exact Bool.noConfusion (show false = true from hb4) | exact absurd hb4 (by decide)
      all_goals
        (replace h0 := dp_up (up_of e4) _ _ h0
         replace h1 := dp_up (up_of e4) _ _ h1
         replace hq := hq.up e4
         exact ds_ret (de_and (de_cmp (de_len F (n_len T) (de_v 0 h0) (by first | exact .inl rfl | exact .inr rfl)) de_int (by first | exact cm_eqs | exact cm_eqi | exact cm_eqb | exact cm_eqD F (by first | rfl | exact shaped_cp _ | exact shaped_lt _) (by first | rfl | exact shaped_cp _))) fun hb5 => (de_one (de_f F (f_is_one_of T) (xa_d (de_ixT F (de_v 0 h0) de_int) (xa_d (de_g F (g_ENDS T)) xa_nil)) ⟨_, _, rfl, rfl, rfl⟩))) hq (by first | rfl | (rcases hc with rfl | rfl | rfl <;> rfl) | (unfold StpOk NxOk at hc; simp [hc]; done)))
    · try first | exact Bool.noConfusion (show true = false from hb4) | exact absurd hb4 (by decide)
      all_goals
        (replace h0 := dp_up (up_of e4) _ _ h0
         replace h1 := dp_up (up_of e4) _ _ h1
         replace hq := hq.up e4
         refine ds_if (dt_cmp (de_ixT F (de_v 0 h0) de_int) (de_g F (g_FORGET T)) (by first | exact cm_eqs | exact cm_eqi | exact cm_eqb | exact cm_eqD F (by first | rfl | exact shaped_cp _ | exact shaped_lt _) (by first | rfl | exact shaped_cp _))) (fun hb6 H6 e6 => ?_) (fun hb6 H6 e6 => ?_)
         · try first | exact Bool.noConfusion (show false = true from hb6) | exact absurd hb6 (by decide)
           all_goals
             (replace h0 := dp_up (up_of e6) _ _ h0
              replace h1 := dp_up (up_of e6) _ _ h1
              replace hq := hq.up e6
              exact ds_ret (de_and (de_cmp (de_len F (n_len T) (de_v 0 h0) (by first | exact .inl rfl | exact .inr rfl)) de_int (by first | exact cm_eqs | exact cm_eqi | exact cm_eqb | exact cm_eqD F (by first | rfl | exact shaped_cp _ | exact shaped_lt _) (by first | rfl | exact shaped_cp _))) fun hb7 => (de_one (de_f F (f_is_number T) (xa_d (de_ixT F (de_v 0 h0) de_int) (xa_d (de_v 1 h1) xa_nil)) ⟨_, _, rfl, by first | trivial | assumption | omega | decide | simp_all, rfl⟩))) hq (by first | rfl | (rcases hc with rfl | rfl | rfl <;> rfl) | (unfold StpOk NxOk at hc; simp [hc]; done)))
         · try first | exact Bool.noConfusion (show true = false from hb6) | exact absurd hb6 (by decide)
           all_goals
             (replace h0 := dp_up (up_of e6) _ _ h0
              replace h1 := dp_up (up_of e6) _ _ h1
              replace hq := hq.up e6
              refine ds_guard (DT.is (dt_w (dw_or (er_niK F (de_ixT F (de_v 0 h0) de_int) (m_CONDITIONS T) (by first | exact (t_CONDITIONS_read T).i | exact (t_CONDITIONS_put T).i | exact (t_CONDITIONS_take T).i)) fun hb9 => (dw_one_or (dt_not (dt_e (de_f F (f_is_one_of T) (xa_d (de_ixT F (de_v 0 h0) de_int) (xa_d (de_atK F (de_ixT F (de_v 0 h0) de_int) (m_CONDITIONS T) (by first | exact t_PLACES_tag T | exact t_PLACES_look T | exact t_PLACES_stamp T | exact t_ANSWERS_read T | exact t_ANSWERS_put T | exact t_ANSWERS_take T | exact t_CONDITIONS_read T | exact t_CONDITIONS_put T | exact t_CONDITIONS_take T | assumption)) xa_nil)) ⟨_, _, rfl, rfl, rfl⟩)))))) (by first | (rcases hc with ⟨rfl | rfl | rfl | rfl, _⟩ <;> rfl) | (rcases hc with ⟨rfl | rfl | rfl | rfl | rfl, _⟩ <;> rfl))) fun H8 e8 => ?_
              replace h0 := dp_up (up_of e8) _ _ h0
              replace h1 := dp_up (up_of e8) _ _ h1
              replace hq := hq.up e8
              refine ds_set (F := F) 2 (de_slT F (de_v 0 h0) (oe_some (K := K) de_int) oe_none) fun v2_ H10 e10 h2 => ?_
              replace h0 := dp_up (up_of e10) _ _ h0
              replace h1 := dp_up (up_of e10) _ _ h1
              replace hq := hq.up e10
              show DSs _ _ [some v0_, some v1_, some v2_, _] _ _
              refine ds_if (dt_cmp (de_ixT F (de_v 0 h0) de_int) (de_g F (g_PUT T)) (by first | exact cm_eqs | exact cm_eqi | exact cm_eqb | exact cm_eqD F (by first | rfl | exact shaped_cp _ | exact shaped_lt _) (by first | rfl | exact shaped_cp _))) (fun hb11 H11 e11 => ?_) (fun hb11 H11 e11 => ?_)
              · try first | exact Bool.noConfusion (show false = true from hb11) | exact absurd hb11 (by decide)
                all_goals
                  (replace h0 := dp_up (up_of e11) _ _ h0
                   replace h1 := dp_up (up_of e11) _ _ h1
                   replace h2 := dp_up (up_of e11) _ _ h2
                   replace hq := hq.up e11
                   refine ds_guard (DT.is (dt_w (dw_or (dt_cmp (de_len F (n_len T) (de_v 0 h0) (by first | exact .inl rfl | exact .inr rfl)) de_int (by first | exact cm_lt | exact cm_lts)) fun hb13 => (dw_one_or (dt_not (dt_e (de_f F (f_is_one_of T) (xa_d (de_ixT F (de_v 0 h0) de_int) (xa_d (de_tup (xa_d (de_g F (g_SMALL T)) (xa_d (de_g F (g_GREAT T)) xa_nil))) xa_nil)) ⟨_, _, rfl, rfl, rfl⟩)))))) (by rcases hc with ⟨_, rfl | rfl, _⟩ <;> rfl)) fun H12 e12 => ?_
                   replace h0 := dp_up (up_of e12) _ _ h0
                   replace h1 := dp_up (up_of e12) _ _ h1
                   replace h2 := dp_up (up_of e12) _ _ h2
                   replace hq := hq.up e12
                   refine ds_set (F := F) 2 (de_slT F (de_v 0 h0) (oe_some (K := K) de_int) oe_none) fun v2_ H14 e14 h2 => ?_
                   replace h0 := dp_up (up_of e14) _ _ h0
                   replace h1 := dp_up (up_of e14) _ _ h1
                   replace hq := hq.up e14
                   show DSs _ _ [some v0_, some v1_, some v2_, _] _ _
                   refine ds_nil ?_
                   show DSs _ _ _ _ _
                   exact ds_ret (de_and (de_cmp (de_len F (n_len T) (de_v 2 h2) (by first | exact .inl rfl | exact .inr rfl)) (de_len F (n_len T) (de_atK F (de_ixT F (de_v 0 h0) de_int) (m_ANSWERS T) (by first | exact t_PLACES_tag T | exact t_PLACES_look T | exact t_PLACES_stamp T | exact t_ANSWERS_read T | exact t_ANSWERS_put T | exact t_ANSWERS_take T | exact t_CONDITIONS_read T | exact t_CONDITIONS_put T | exact t_CONDITIONS_take T | assumption)) (by first | exact .inl rfl | exact .inr rfl)) (by first | exact cm_eqs | exact cm_eqi | exact cm_eqb | exact cm_eqD F (by first | rfl | exact shaped_cp _ | exact shaped_lt _) (by first | rfl | exact shaped_cp _))) fun hb15 => (de_one (de_allT 3 F (n_all T) (de_v 2 h2) (by intro d v3_ H_ u_ hd h3 F; (obtain ⟨i, rfl, hi⟩ : ∃ i, d = PyData.int i ∧ NxOk m i := by first | exact allNx_cons hc.2.1 (allNx_cons hc.2.2.1 (allNx_cons hc.2.2.2.1 (allNx_cons hc.2.2.2.2.1 (allNx_cons hc.2.2.2.2.2 allNx_nil)))) d hd | exact allNx_cons hc.2.1 (allNx_cons hc.2.2.1 (allNx_cons hc.2.2.2.1 (allNx_cons hc.2.2.2.2 allNx_nil))) d hd | exact allNx_cons hc.2.2.1 (allNx_cons hc.2.2.2.1 (allNx_cons hc.2.2.2.2 allNx_nil)) d hd); replace h0 := dp_up u_ _ _ h0; replace h1 := dp_up u_ _ _ h1; replace h2 := dp_up u_ _ _ h2; exact DE.is (de_f F (f_is_number T) (xa_d (de_v 3 h3) (xa_d (de_v 1 h1) xa_nil)) ⟨_, _, rfl, by first | trivial | assumption | omega | decide | simp_all, rfl⟩) (by first | rfl | (obtain ⟨x1, x2⟩ := hi; simp [x1, x2, isiD]; done) | (obtain ⟨x1, x2⟩ := hi; simp [x1, x2, isiD]; omega))) (ok := by intro _; show BlkOk ["value", "many", "nexts", "one"] (defScope s_is_step) _ _; exact ⟨rfl, by decide +kernel, by decide +kernel, by decide +kernel, by decide +kernel⟩)))) hq (by first | rfl | (rcases hc with rfl | rfl | rfl <;> rfl) | (unfold StpOk NxOk at hc; simp [hc]; done)))
              · try first | exact Bool.noConfusion (show true = false from hb11) | exact absurd hb11 (by decide)
                all_goals
                  (replace h0 := dp_up (up_of e11) _ _ h0
                   replace h1 := dp_up (up_of e11) _ _ h1
                   replace h2 := dp_up (up_of e11) _ _ h2
                   replace hq := hq.up e11
                   exact ds_ret (de_and (de_cmp (de_len F (n_len T) (de_v 2 h2) (by first | exact .inl rfl | exact .inr rfl)) (de_len F (n_len T) (de_atK F (de_ixT F (de_v 0 h0) de_int) (m_ANSWERS T) (by first | exact t_PLACES_tag T | exact t_PLACES_look T | exact t_PLACES_stamp T | exact t_ANSWERS_read T | exact t_ANSWERS_put T | exact t_ANSWERS_take T | exact t_CONDITIONS_read T | exact t_CONDITIONS_put T | exact t_CONDITIONS_take T | assumption)) (by first | exact .inl rfl | exact .inr rfl)) (by first | exact cm_eqs | exact cm_eqi | exact cm_eqb | exact cm_eqD F (by first | rfl | exact shaped_cp _ | exact shaped_lt _) (by first | rfl | exact shaped_cp _))) fun hb16 => (de_one (de_allT 3 F (n_all T) (de_v 2 h2) (by intro d v3_ H_ u_ hd h3 F; (obtain ⟨i, rfl, hi⟩ : ∃ i, d = PyData.int i ∧ NxOk m i := by first | exact allNx_cons hc.2.1 (allNx_cons hc.2.2.1 (allNx_cons hc.2.2.2.1 (allNx_cons hc.2.2.2.2.1 (allNx_cons hc.2.2.2.2.2 allNx_nil)))) d hd | exact allNx_cons hc.2.1 (allNx_cons hc.2.2.1 (allNx_cons hc.2.2.2.1 (allNx_cons hc.2.2.2.2 allNx_nil))) d hd | exact allNx_cons hc.2.2.1 (allNx_cons hc.2.2.2.1 (allNx_cons hc.2.2.2.2 allNx_nil)) d hd); replace h0 := dp_up u_ _ _ h0; replace h1 := dp_up u_ _ _ h1; replace h2 := dp_up u_ _ _ h2; exact DE.is (de_f F (f_is_number T) (xa_d (de_v 3 h3) (xa_d (de_v 1 h1) xa_nil)) ⟨_, _, rfl, by first | trivial | assumption | omega | decide | simp_all, rfl⟩) (by first | rfl | (obtain ⟨x1, x2⟩ := hi; simp [x1, x2, isiD]; done) | (obtain ⟨x1, x2⟩ := hi; simp [x1, x2, isiD]; omega))) (ok := by intro _; show BlkOk ["value", "many", "nexts", "one"] (defScope s_is_step) _ _; exact ⟨rfl, by decide +kernel, by decide +kernel, by decide +kernel, by decide +kernel⟩)))) hq (by first | rfl | (rcases hc with rfl | rfl | rfl <;> rfl) | (unfold StpOk NxOk at hc; simp [hc]; done))))))
end
end PK
namespace PK
open L2 PySem PySem.Spec PyProof.Rows
/-! ## the state and what is reckoned of it -/
def nextD : Stp → Str → Int
  | .read _ a b c d e, x => if x = "got" then a else if x = "mine" then b else if x = "unchanged" then c else if x = "absent" then d else e
  | .put _ _ a b c, x => if x = "yes" then a else if x = "no" then b else c
  | .take _ a b c d, x => if x = "yes" then a else if x = "no" then b else if x = "absent" then c else d
  | _, _ => 0
def AnsOk : Stp → Str → Prop
  | .read _ _ _ _ _ _, x => x = "got" ∨ x = "mine" ∨ x = "unchanged" ∨ x = "absent" ∨ x = "lost"
  | .put _ _ _ _ _, x => x = "yes" ∨ x = "no" ∨ x = "lost"
  | .take _ _ _ _ _, x => x = "yes" ∨ x = "no" ∨ x = "absent" ∨ x = "lost"
  | _, _ => False
def ansTo : Stp → Str → Cp → Str
  | .read k _ _ _ _ _, s, c => readBy s c k
  | .put k _ _ _ _, s, c => putBy s c k
  | .take k _ _ _ _, s, c => takeBy s c k
  | _, _, _ => ""
/-- the step's condition is one of its kind's -/
def ConOk : Stp → Prop
  | .read k _ _ _ _ _ => ReadC k
  | .put k z _ _ _ => PutC k ∧ (z = "small" ∨ z = "great")
  | .take k _ _ _ _ => TakeC k
  | _ => True
def isReq : Stp → Bool
  | .read _ _ _ _ _ _ => true
  | .put _ _ _ _ _ => true
  | .take _ _ _ _ _ => true
  | _ => false
def isWr : Stp → Bool
  | .put _ _ _ _ _ => true
  | .take _ _ _ _ _ => true
  | _ => false
def actOf : Stp → Str
  | .put _ z _ _ _ => z
  | _ => "take"
def isDoneBy : Stp → Str → Cp → Bool
  | .put k _ _ _ _, s, c => decide (putBy s c k = "yes")
  | .take k _ _ _ _, s, c => decide (takeBy s c k = "yes")
  | _, _, _ => false
def lateAfter (s : Str) (l : Lt) (a : Str) : Lt := match l with
  | none => none
  | some (n, c, m) => some (n, copyAfter s c a, m)
structure StD where
  srv : Str
  num : Int
  cp : Cp
  kn : Int
  ow : Int
  dn : Int
  lt : Lt
def StD.d (s : StD) : PyData := .tuple [.str s.srv, .int s.num, cpD s.cp, .int s.kn, .int s.ow, .int s.dn, ltD s.lt]
theorem ConOk.of {m : Int} {o : Stp} (h : StpOk m o) : ConOk o := by
  cases o with
  | read => exact h.1
  | put => exact ⟨h.1, h.2.1⟩
  | take => exact h.1
  | _ => trivial
section
variable {P : Program} {w : World} {K : PySem.W.Frag} {mg : Str → Option Value} {base : Heap} (T : Txt w K mg)
include T
def pre_next_behind (xs : List Dx) (r : PyData) : Prop := ∃ (o : Stp) (x : Str), xs = [.d (o.d), .d (.str x)] ∧ (AnsOk o x) ∧ r = .int (nextD o x)
theorem f_next_behind : FnC P w K mg base 1 "next_behind" (Spf K pre_next_behind) := by
  refine fnC_pure (N := ["one", "answer", "answers"]) (ps := ["one", "answer"]) (h_next_behind T) (m_next_behind T) ⟨rfl, rfl, rfl, by decide +kernel, rfl, by decide +kernel, by decide +kernel⟩ (fun _ _ _ _ _ _ us hl => match us, hl with | [_, _], _ => rfl) (fun xs r h => by
    obtain ⟨_, _, rfl, _⟩ := h
    rfl) ?_
  intro Y cdv A outer s_ H vs xs r Q E hY F hv hp hq
  subst hY
  obtain ⟨o, x, rfl, hc, rfl⟩ := hp
  obtain ⟨v0_, v1_, rfl, h0, h1⟩ := vxs2 hv
  show DSs _ _ [some v0_, some v1_, _] _ _
  (rcases o with ⟨k, a, b, c, d, e⟩ | ⟨k, z, a, b, c⟩ | ⟨k, a, b, c, d⟩ | n | w_ <;> (first | exact hc.elim | skip); rcases hc with rfl | rfl | rfl | rfl | rfl; rotate_left 5; rcases hc with rfl | rfl | rfl; rotate_left 3; rcases hc with rfl | rfl | rfl | rfl) <;> (
    refine ds_set (F := F) 2 (by first | exact er_atW F (de_ixT F (de_v 0 h0) de_int) (m_ANSWERS T) (t_ANSWERS_read T) (w_ANSWERS_read T) | exact er_atW F (de_ixT F (de_v 0 h0) de_int) (m_ANSWERS T) (t_ANSWERS_put T) (w_ANSWERS_put T) | exact er_atW F (de_ixT F (de_v 0 h0) de_int) (m_ANSWERS T) (t_ANSWERS_take T) (w_ANSWERS_take T)) fun v2_ H1 e1 h2 => ?_
    replace h0 := dp_up (up_of e1) _ _ h0
    replace h1 := dp_up (up_of e1) _ _ h1
    replace hq := hq.up e1
    obtain ⟨h2, hf2⟩ := h2
    show DSs _ _ [some v0_, some v1_, some v2_] _ _
    exact ds_ret (de_ixT F (de_v 0 h0) (de_sub (by first | exact de_index (zs := ["got", "mine", "unchanged", "absent", "lost"]) (j := 0) F (er_vF 2 h2 hf2) (de_v 1 h1) rfl (by decide) | exact de_index (zs := ["got", "mine", "unchanged", "absent", "lost"]) (j := 1) F (er_vF 2 h2 hf2) (de_v 1 h1) rfl (by decide) | exact de_index (zs := ["got", "mine", "unchanged", "absent", "lost"]) (j := 2) F (er_vF 2 h2 hf2) (de_v 1 h1) rfl (by decide) | exact de_index (zs := ["got", "mine", "unchanged", "absent", "lost"]) (j := 3) F (er_vF 2 h2 hf2) (de_v 1 h1) rfl (by decide) | exact de_index (zs := ["got", "mine", "unchanged", "absent", "lost"]) (j := 4) F (er_vF 2 h2 hf2) (de_v 1 h1) rfl (by decide) | exact de_index (zs := ["yes", "no", "lost"]) (j := 0) F (er_vF 2 h2 hf2) (de_v 1 h1) rfl (by decide) | exact de_index (zs := ["yes", "no", "lost"]) (j := 1) F (er_vF 2 h2 hf2) (de_v 1 h1) rfl (by decide) | exact de_index (zs := ["yes", "no", "lost"]) (j := 2) F (er_vF 2 h2 hf2) (de_v 1 h1) rfl (by decide) | exact de_index (zs := ["yes", "no", "absent", "lost"]) (j := 0) F (er_vF 2 h2 hf2) (de_v 1 h1) rfl (by decide) | exact de_index (zs := ["yes", "no", "absent", "lost"]) (j := 1) F (er_vF 2 h2 hf2) (de_v 1 h1) rfl (by decide) | exact de_index (zs := ["yes", "no", "absent", "lost"]) (j := 2) F (er_vF 2 h2 hf2) (de_v 1 h1) rfl (by decide) | exact de_index (zs := ["yes", "no", "absent", "lost"]) (j := 3) F (er_vF 2 h2 hf2) (de_v 1 h1) rfl (by decide)) (de_len F (n_len T) (de_v 2 h2) (by first | exact .inl rfl | exact .inr rfl)))) hq (by rfl))
def pre_need_net (xs : List Dx) (r : PyData) : Prop := ∃ (n : Str), xs = [.d (.str n)] ∧ (n = "sure" ∨ n = "lost" ∨ n = "late" ∨ n = "again") ∧ r = .none
theorem f_need_net : FnC P w K mg base 2 "need_net" (Spf K pre_need_net) := by
  refine fnC_pure (N := ["value"]) (ps := ["value"]) (h_need_net T) (m_need_net T) ⟨rfl, rfl, rfl, by decide +kernel, rfl, by decide +kernel, by decide +kernel⟩ (fun _ _ _ _ _ _ us hl => match us, hl with | [_], _ => rfl) (fun xs r h => by
    obtain ⟨_, rfl, _⟩ := h
    rfl) ?_
  intro Y cdv A outer s_ H vs xs r Q E hY F hv hp hq
  subst hY
  obtain ⟨n, rfl, hc, rfl⟩ := hp
  obtain ⟨v0_, rfl, h0⟩ := vxs1 hv
  show DSs _ _ [some v0_] _ _
  refine ds_guard (DT.is (dt_not (dt_e (de_f F (f_is_one_of T) (xa_d (de_v 0 h0) (xa_d (de_g F (g_NETS T)) xa_nil)) ⟨_, _, rfl, rfl, rfl⟩))) (by rcases hc with rfl | rfl | rfl | rfl <;> rfl)) fun H1 e1 => ?_
  replace h0 := dp_up (up_of e1) _ _ h0
  replace hq := hq.up e1
  exact ds_nil (hq _ _ (Same.refl _) .non)
def pre_first_of (xs : List Dx) (r : PyData) : Prop := ∃ (s : Str), xs = [.d (.str s)] ∧ (True) ∧ r = (StD.mk s 0 none 0 0 0 none).d
theorem f_first_of : FnC P w K mg base 1 "first_of" (Spf K pre_first_of) := by
  refine fnC_pure (N := ["server"]) (ps := ["server"]) (h_first_of T) (m_first_of T) ⟨rfl, rfl, rfl, by decide +kernel, rfl, by decide +kernel, by decide +kernel⟩ (fun _ _ _ _ _ _ us hl => match us, hl with | [_], _ => rfl) (fun xs r h => by
    obtain ⟨_, rfl, _⟩ := h
    rfl) ?_
  intro Y cdv A outer s_ H vs xs r Q E hY F hv hp hq
  subst hY
  obtain ⟨s, rfl, hc, rfl⟩ := hp
  obtain ⟨v0_, rfl, h0⟩ := vxs1 hv
  show DSs _ _ [some v0_] _ _
  exact ds_ret (de_tup (xa_d (de_v 0 h0) (xa_d de_int (xa_d (de_tup xa_nil) (xa_d de_int (xa_d de_int (xa_d de_int (xa_d (de_tup xa_nil) xa_nil)))))))) hq (by first | rfl | (simp_all [bif_str]; done))
def pre_answer_to (xs : List Dx) (r : PyData) : Prop := ∃ (o : Stp) (s : Str) (c : Cp), xs = [.d (o.d), .d (.str s), .d (cpD c)] ∧ (ConOk o ∧ isReq o = true) ∧ r = .str (ansTo o s c)
theorem f_answer_to : FnC P w K mg base 4 "answer_to" (Spf K pre_answer_to) := by
  refine fnC_pure (N := ["one", "server", "copy"]) (ps := ["one", "server", "copy"]) (h_answer_to T) (m_answer_to T) ⟨rfl, rfl, rfl, by decide +kernel, rfl, by decide +kernel, by decide +kernel⟩ (fun _ _ _ _ _ _ us hl => match us, hl with | [_, _, _], _ => rfl) (fun xs r h => by
    obtain ⟨_, _, _, rfl, _⟩ := h
    rfl) ?_
  intro Y cdv A outer s_ H vs xs r Q E hY F hv hp hq
  subst hY
  obtain ⟨o, s, c, rfl, hc, rfl⟩ := hp
  obtain ⟨v0_, v1_, v2_, rfl, h0, h1, h2⟩ := vxs3 hv
  show DSs _ _ [some v0_, some v1_, some v2_] _ _
  (rcases o with ⟨k, a, b, c1, d, e⟩ | ⟨k, z, a, b, c1⟩ | ⟨k, a, b, c1, d⟩ | n | w_ <;> (first | exact Bool.noConfusion (show false = true from hc.2) | skip)) <;> (
    refine ds_if (dt_cmp (de_ixT F (de_v 0 h0) de_int) (de_g F (g_READ T)) (by first | exact cm_eqs | exact cm_eqi | exact cm_eqb | exact cm_eqD F (by first | rfl | exact shaped_cp _ | exact shaped_lt _) (by first | rfl | exact shaped_cp _))) (fun hb1 H1 e1 => ?_) (fun hb1 H1 e1 => ?_)
    · try first | exact Bool.noConfusion (show false = true from hb1) | exact absurd hb1 (by decide)
      all_goals
        (replace h0 := dp_up (up_of e1) _ _ h0
         replace h1 := dp_up (up_of e1) _ _ h1
         replace h2 := dp_up (up_of e1) _ _ h2
         replace hq := hq.up e1
         exact ds_ret (by first | exact (de_f F (f_read_by T) (xa_d (de_v 1 h1) (xa_d (de_v 2 h2) (xa_d (de_ixT F (de_v 0 h0) de_int) xa_nil))) ⟨_, _, _, rfl, hc.1, rfl⟩) | exact de_non) hq (by first | rfl | (simp_all [bif_str]; done)))
    · try first | exact Bool.noConfusion (show true = false from hb1) | exact absurd hb1 (by decide)
      all_goals
        (replace h0 := dp_up (up_of e1) _ _ h0
         replace h1 := dp_up (up_of e1) _ _ h1
         replace h2 := dp_up (up_of e1) _ _ h2
         replace hq := hq.up e1
         exact ds_ret (de_if (dt_cmp (de_ixT F (de_v 0 h0) de_int) (de_g F (g_PUT T)) (by first | exact cm_eqs | exact cm_eqi | exact cm_eqb | exact cm_eqD F (by first | rfl | exact shaped_cp _ | exact shaped_lt _) (by first | rfl | exact shaped_cp _))) (fun hb2 => (by first | exact (de_f F (f_put_by T) (xa_d (de_v 1 h1) (xa_d (de_v 2 h2) (xa_d (de_ixT F (de_v 0 h0) de_int) xa_nil))) ⟨_, _, _, rfl, hc.1.1, rfl⟩) | exact (show DE _ _ _ _ _ (.str "") from (by first | exact Bool.noConfusion (show true = false from hb2) | exact Bool.noConfusion (show false = true from hb2))))) fun hb2 => (by first | exact (de_f F (f_take_by T) (xa_d (de_v 1 h1) (xa_d (de_v 2 h2) (xa_d (de_ixT F (de_v 0 h0) de_int) xa_nil))) ⟨_, _, _, rfl, hc.1, rfl⟩) | exact (show DE _ _ _ _ _ (.str "") from (by first | exact Bool.noConfusion (show true = false from hb2) | exact Bool.noConfusion (show false = true from hb2))))) hq (by first | rfl | (simp_all [bif_str]; done))))
def pre_act_of (xs : List Dx) (r : PyData) : Prop := ∃ (o : Stp), xs = [.d (o.d)] ∧ (isWr o = true) ∧ r = .str (actOf o)
theorem f_act_of : FnC P w K mg base 1 "act_of" (Spf K pre_act_of) := by
  refine fnC_pure (N := ["one"]) (ps := ["one"]) (h_act_of T) (m_act_of T) ⟨rfl, rfl, rfl, by decide +kernel, rfl, by decide +kernel, by decide +kernel⟩ (fun _ _ _ _ _ _ us hl => match us, hl with | [_], _ => rfl) (fun xs r h => by
    obtain ⟨_, rfl, _⟩ := h
    rfl) ?_
  intro Y cdv A outer s_ H vs xs r Q E hY F hv hp hq
  subst hY
  obtain ⟨o, rfl, hc, rfl⟩ := hp
  obtain ⟨v0_, rfl, h0⟩ := vxs1 hv
  show DSs _ _ [some v0_] _ _
  (rcases o with ⟨k, a, b, c1, d, e⟩ | ⟨k, z, a, b, c1⟩ | ⟨k, a, b, c1, d⟩ | n | w_ <;> (first | exact Bool.noConfusion (show false = true from hc) | skip)) <;> (
    exact ds_ret (de_if (dt_cmp (de_ixT F (de_v 0 h0) de_int) (de_g F (g_PUT T)) (by first | exact cm_eqs | exact cm_eqi | exact cm_eqb | exact cm_eqD F (by first | rfl | exact shaped_cp _ | exact shaped_lt _) (by first | rfl | exact shaped_cp _))) (fun hb1 => (by first | exact (de_ixT F (de_v 0 h0) de_int) | exact (show DE _ _ _ _ _ (.str "") from (by first | exact Bool.noConfusion (show true = false from hb1) | exact Bool.noConfusion (show false = true from hb1))))) fun hb1 => (de_g F (g_TAKE T))) hq (by first | rfl | (simp_all [bif_str]; done)))
def pre_is_done_by (xs : List Dx) (r : PyData) : Prop := ∃ (o : Stp) (s : Str) (c : Cp), xs = [.d (o.d), .d (.str s), .d (cpD c)] ∧ (ConOk o) ∧ r = .bool (isDoneBy o s c)
theorem f_is_done_by : FnC P w K mg base 5 "is_done_by" (Spf K pre_is_done_by) := by
  refine fnC_pure (N := ["one", "server", "copy"]) (ps := ["one", "server", "copy"]) (h_is_done_by T) (m_is_done_by T) ⟨rfl, rfl, rfl, by decide +kernel, rfl, by decide +kernel, by decide +kernel⟩ (fun _ _ _ _ _ _ us hl => match us, hl with | [_, _, _], _ => rfl) (fun xs r h => by
    obtain ⟨_, _, _, rfl, _⟩ := h
    rfl) ?_
  intro Y cdv A outer s_ H vs xs r Q E hY F hv hp hq
  subst hY
  obtain ⟨o, s, c, rfl, hc, rfl⟩ := hp
  obtain ⟨v0_, v1_, v2_, rfl, h0, h1, h2⟩ := vxs3 hv
  show DSs _ _ [some v0_, some v1_, some v2_] _ _
  (rcases o with ⟨k, a, b, c1, d, e⟩ | ⟨k, z, a, b, c1⟩ | ⟨k, a, b, c1, d⟩ | n | w_) <;> (
    exact ds_ret (de_and (de_cmp (de_ixT F (de_v 0 h0) de_int) (de_tup (xa_d (de_g F (g_PUT T)) (xa_d (de_g F (g_TAKE T)) xa_nil))) (by first | exact cm_inS F | exact cm_inS F (by assumption) | exact cm_inD F (by first | rfl | exact shaped_cp _) (by first | rfl | assumption))) fun hb1 => (de_one (by first | exact (de_cmp (de_f F (f_answer_to T) (xa_d (de_v 0 h0) (xa_d (de_v 1 h1) (xa_d (de_v 2 h2) xa_nil))) ⟨_, _, _, rfl, ⟨hc, rfl⟩, rfl⟩) (de_g F (g_YES T)) (by first | exact cm_eqs | exact cm_eqi | exact cm_eqb | exact cm_eqD F (by first | rfl | exact shaped_cp _ | exact shaped_lt _) (by first | rfl | exact shaped_cp _))) | exact (show DE _ _ _ _ _ (.bool false) from (by first | exact Bool.noConfusion (show true = false from hb1) | exact Bool.noConfusion (show false = true from hb1)))))) hq (by first | rfl | (simp_all [bif_str]; done)))
def pre_late_after (xs : List Dx) (r : PyData) : Prop := ∃ (s : Str) (l : Lt) (x : Str), xs = [.d (.str s), .d (ltD l), .d (.str x)] ∧ (True) ∧ r = ltD (lateAfter s l x)
theorem f_late_after : FnC P w K mg base 3 "late_after" (Spf K pre_late_after) := by
  refine fnC_pure (N := ["server", "late", "act"]) (ps := ["server", "late", "act"]) (h_late_after T) (m_late_after T) ⟨rfl, rfl, rfl, by decide +kernel, rfl, by decide +kernel, by decide +kernel⟩ (fun _ _ _ _ _ _ us hl => match us, hl with | [_, _, _], _ => rfl) (fun xs r h => by
    obtain ⟨_, _, _, rfl, _⟩ := h
    rfl) ?_
  intro Y cdv A outer s_ H vs xs r Q E hY F hv hp hq
  subst hY
  obtain ⟨s, l, x, rfl, hc, rfl⟩ := hp
  obtain ⟨v0_, v1_, v2_, rfl, h0, h1, h2⟩ := vxs3 hv
  show DSs _ _ [some v0_, some v1_, some v2_] _ _
  (rcases l with _ | ⟨n, c, m⟩) <;> (
    exact ds_ret (de_if (dt_cmp (de_v 1 h1) (de_tup xa_nil) (by first | exact cm_eqs | exact cm_eqi | exact cm_eqb | exact cm_eqD F (by first | rfl | exact shaped_cp _ | exact shaped_lt _) (by first | rfl | exact shaped_cp _))) (fun hb1 => (de_tup xa_nil)) fun hb1 => (by first | exact (de_tup (xa_d (de_ixT F (de_v 1 h1) de_int) (xa_d (de_f F (f_copy_after T) (xa_d (de_v 0 h0) (xa_d (de_ixT F (de_v 1 h1) de_int) (xa_d (de_v 2 h2) xa_nil))) ⟨_, _, _, rfl, by first | trivial | assumption | omega | decide | simp_all, rfl⟩) (xa_d (de_ixT F (de_v 1 h1) de_int) xa_nil)))) | exact (show DE _ _ _ _ _ (.tuple []) from (by first | exact Bool.noConfusion (show true = false from hb1) | exact Bool.noConfusion (show false = true from hb1))))) hq (by rfl))
def pre_sent_now (xs : List Dx) (r : PyData) : Prop := ∃ (s : StD) (c : Cp), xs = [.d (s.d), .d (cpD c)] ∧ (True) ∧ r = ltD (some (s.num, c, if s.kn = 1 ∨ s.ow = 1 then 1 else 0))
theorem f_sent_now : FnC P w K mg base 1 "sent_now" (Spf K pre_sent_now) := by
  refine fnC_pure (N := ["state", "kept_copy"]) (ps := ["state", "kept_copy"]) (h_sent_now T) (m_sent_now T) ⟨rfl, rfl, rfl, by decide +kernel, rfl, by decide +kernel, by decide +kernel⟩ (fun _ _ _ _ _ _ us hl => match us, hl with | [_, _], _ => rfl) (fun xs r h => by
    obtain ⟨_, _, rfl, _⟩ := h
    rfl) ?_
  intro Y cdv A outer s_ H vs xs r Q E hY F hv hp hq
  subst hY
  obtain ⟨s, c, rfl, hc, rfl⟩ := hp
  obtain ⟨v0_, v1_, rfl, h0, h1⟩ := vxs2 hv
  show DSs _ _ [some v0_, some v1_] _ _
  exact ds_ret (de_tup (xa_d (de_ixT F (de_v 0 h0) de_int) (xa_d (de_v 1 h1) (xa_d (de_intb F (n_int T) (de_or (de_cmp (de_ixT F (de_v 0 h0) de_int) de_int (by first | exact cm_eqs | exact cm_eqi | exact cm_eqb | exact cm_eqD F (by first | rfl | exact shaped_cp _ | exact shaped_lt _) (by first | rfl | exact shaped_cp _))) fun hb1 => (de_one (de_cmp (de_ixT F (de_v 0 h0) de_int) de_int (by first | exact cm_eqs | exact cm_eqi | exact cm_eqb | exact cm_eqD F (by first | rfl | exact shaped_cp _ | exact shaped_lt _) (by first | rfl | exact shaped_cp _)))))) xa_nil)))) hq (by first | (simp [ltD, unD]; done) | (simp [ltD, unD]; split <;> simp_all))
end
def acted (s : StD) (a : Str) (own : Bool) : StD :=
  { srv := serverAfter s.srv a, num := s.num, cp := copyAfter s.srv s.cp a, kn := 0, ow := bif own then 1 else 0, dn := bif own then (if s.dn + 1 < 2 then s.dn + 1 else 2) else s.dn,
    lt := match s.lt with
      | none => none
      | some (n, c, m) => some (n, copyAfter s.srv c a, bif own then m else 0) }
def ticked (s : StD) : StD := { s with srv := serverAfter s.srv "tick", cp := copyAfter s.srv s.cp "tick", lt := lateAfter s.srv s.lt "tick" }
section
variable {P : Program} {w : World} {K : PySem.W.Frag} {mg : Str → Option Value} {base : Heap} (T : Txt w K mg)
include T
def pre_acted (xs : List Dx) (r : PyData) : Prop := ∃ (s : StD) (x : Str) (own : Bool), xs = [.d (s.d), .d (.str x), .d (.bool own)] ∧ (True) ∧ r = (acted s x own).d
theorem f_acted : FnC P w K mg base 4 "acted" (Spf K pre_acted) := by
  refine fnC_pure (N := ["state", "act", "is_own", "later", "many", "server", "number", "copy", "known", "own", "done", "late"]) (ps := ["state", "act", "is_own"]) (h_acted T) (m_acted T) ⟨rfl, rfl, rfl, by decide +kernel, rfl, by decide +kernel, by decide +kernel⟩ (fun _ _ _ _ _ _ us hl => match us, hl with | [_, _, _], _ => rfl) (fun xs r h => by
    obtain ⟨_, _, _, rfl, _⟩ := h
    rfl) ?_
  intro Y cdv A outer s_ H vs xs r Q E hY F hv hp hq
  subst hY
  obtain ⟨s, x, own, rfl, hc, rfl⟩ := hp
  obtain ⟨v0_, v1_, v2_, rfl, h0, h1, h2⟩ := vxs3 hv
  show DSs _ _ [some v0_, some v1_, some v2_, _, _, _, _, _, _, _, _, _] _ _
  (rcases s with ⟨srv, num, cp, kn, ow, dn, _ | ⟨n, c, m⟩⟩ <;> cases own) <;> (
    refine ds_unp F (de_v 0 h0) (gn_cons F 5 (gn_cons F 6 (gn_cons F 7 (gn_cons F 8 (gn_cons F 9 (gn_cons F 10 (gn_cons F 11 gn_nil))))))) fun us1 H1 e1 hu1 => ?_
    replace h0 := dp_up (up_of e1) _ _ h0
    replace h1 := dp_up (up_of e1) _ _ h1
    replace h2 := dp_up (up_of e1) _ _ h2
    replace hq := hq.up e1
    obtain ⟨v5_, v6_, v7_, v8_, v9_, v10_, v11_, rfl, h5, h6, h7, h8, h9, h10, h11⟩ := dpa7 hu1
    show DSs _ _ [some v0_, some v1_, some v2_, _, _, some v5_, some v6_, some v7_, some v8_, some v9_, some v10_, some v11_] _ _
    refine ds_set (F := F) 3 (by first | exact (de_f F (f_late_after T) (xa_d (de_v 5 h5) (xa_d (de_v 11 h11) (xa_d (de_v 1 h1) xa_nil))) ⟨_, _, _, rfl, by first | trivial | assumption | omega | decide | simp_all, rfl⟩) | exact (de_f F (f_late_after T) (xa_d (de_v 3 h3) (xa_d (de_v 9 h9) (xa_d (de_v 1 h1) xa_nil))) ⟨_, _, _, rfl, trivial, rfl⟩)) fun v3_ H2 e2 h3 => ?_
    replace h0 := dp_up (up_of e2) _ _ h0
    replace h1 := dp_up (up_of e2) _ _ h1
    replace h2 := dp_up (up_of e2) _ _ h2
    replace h5 := dp_up (up_of e2) _ _ h5
    replace h6 := dp_up (up_of e2) _ _ h6
    replace h7 := dp_up (up_of e2) _ _ h7
    replace h8 := dp_up (up_of e2) _ _ h8
    replace h9 := dp_up (up_of e2) _ _ h9
    replace h10 := dp_up (up_of e2) _ _ h10
    replace h11 := dp_up (up_of e2) _ _ h11
    replace hq := hq.up e2
    show DSs _ _ [some v0_, some v1_, some v2_, some v3_, _, some v5_, some v6_, some v7_, some v8_, some v9_, some v10_, some v11_] _ _
    refine ds_if (dt_w (dw_and (dt_not (dt_e (de_v 2 h2))) fun hb4 => (dw_one_and (dt_cmp (de_v 3 h3) (de_tup xa_nil) (by first | exact cm_nes | exact cm_nei | exact cm_neD F (by first | rfl | exact shaped_cp _ | exact shaped_lt _) (by first | rfl | exact shaped_cp _)))))) (fun hb3 H3 e3 => ?_) (fun hb3 H3 e3 => ?_)
    · try first | exact Bool.noConfusion (show false = true from hb3) | exact absurd hb3 (by decide)
      all_goals
        (replace h0 := dp_up (up_of e3) _ _ h0
         replace h1 := dp_up (up_of e3) _ _ h1
         replace h2 := dp_up (up_of e3) _ _ h2
         replace h3 := dp_up (up_of e3) _ _ h3
         replace h5 := dp_up (up_of e3) _ _ h5
         replace h6 := dp_up (up_of e3) _ _ h6
         replace h7 := dp_up (up_of e3) _ _ h7
         replace h8 := dp_up (up_of e3) _ _ h8
         replace h9 := dp_up (up_of e3) _ _ h9
         replace h10 := dp_up (up_of e3) _ _ h10
         replace h11 := dp_up (up_of e3) _ _ h11
         replace hq := hq.up e3
         refine ds_set (F := F) 3 (de_tup (xa_d (de_ixT F (de_v 3 h3) de_int) (xa_d (de_ixT F (de_v 3 h3) de_int) (xa_d de_int xa_nil)))) fun v3_ H5 e5 h3 => ?_
         replace h0 := dp_up (up_of e5) _ _ h0
         replace h1 := dp_up (up_of e5) _ _ h1
         replace h2 := dp_up (up_of e5) _ _ h2
         replace h5 := dp_up (up_of e5) _ _ h5
         replace h6 := dp_up (up_of e5) _ _ h6
         replace h7 := dp_up (up_of e5) _ _ h7
         replace h8 := dp_up (up_of e5) _ _ h8
         replace h9 := dp_up (up_of e5) _ _ h9
         replace h10 := dp_up (up_of e5) _ _ h10
         replace h11 := dp_up (up_of e5) _ _ h11
         replace hq := hq.up e5
         show DSs _ _ [some v0_, some v1_, some v2_, some v3_, _, some v5_, some v6_, some v7_, some v8_, some v9_, some v10_, some v11_] _ _
         refine ds_nil ?_
         show DSs _ _ _ _ _
         refine ds_set (F := F) 4 (de_if (dt_e (de_v 2 h2)) (fun hb7 => (de_min2 F (n_min T) (de_g F (g_MOST_DONE T)) (de_add (de_v 10 h10) de_int))) fun hb7 => (de_v 10 h10)) fun v4_ H6 e6 h4 => ?_
         replace h0 := dp_up (up_of e6) _ _ h0
         replace h1 := dp_up (up_of e6) _ _ h1
         replace h2 := dp_up (up_of e6) _ _ h2
         replace h3 := dp_up (up_of e6) _ _ h3
         replace h5 := dp_up (up_of e6) _ _ h5
         replace h6 := dp_up (up_of e6) _ _ h6
         replace h7 := dp_up (up_of e6) _ _ h7
         replace h8 := dp_up (up_of e6) _ _ h8
         replace h9 := dp_up (up_of e6) _ _ h9
         replace h10 := dp_up (up_of e6) _ _ h10
         replace h11 := dp_up (up_of e6) _ _ h11
         replace hq := hq.up e6
         show DSs _ _ [some v0_, some v1_, some v2_, some v3_, some v4_, some v5_, some v6_, some v7_, some v8_, some v9_, some v10_, some v11_] _ _
         exact ds_ret (de_tup (xa_d (de_f F (f_server_after T) (xa_d (de_v 5 h5) (xa_d (de_v 1 h1) xa_nil)) ⟨_, _, rfl, by first | trivial | assumption | omega | decide | simp_all, rfl⟩) (xa_d (de_v 6 h6) (xa_d (de_f F (f_copy_after T) (xa_d (de_v 5 h5) (xa_d (de_v 7 h7) (xa_d (de_v 1 h1) xa_nil))) ⟨_, _, _, rfl, by first | trivial | assumption | omega | decide | simp_all, rfl⟩) (xa_d de_int (xa_d (de_intb F (n_int T) (de_v 2 h2)) (xa_d (de_v 4 h4) (xa_d (de_v 3 h3) xa_nil)))))))) hq (by rfl))
    · try first | exact Bool.noConfusion (show true = false from hb3) | exact absurd hb3 (by decide)
      all_goals
        (replace h0 := dp_up (up_of e3) _ _ h0
         replace h1 := dp_up (up_of e3) _ _ h1
         replace h2 := dp_up (up_of e3) _ _ h2
         replace h3 := dp_up (up_of e3) _ _ h3
         replace h5 := dp_up (up_of e3) _ _ h5
         replace h6 := dp_up (up_of e3) _ _ h6
         replace h7 := dp_up (up_of e3) _ _ h7
         replace h8 := dp_up (up_of e3) _ _ h8
         replace h9 := dp_up (up_of e3) _ _ h9
         replace h10 := dp_up (up_of e3) _ _ h10
         replace h11 := dp_up (up_of e3) _ _ h11
         replace hq := hq.up e3
         refine ds_set (F := F) 4 (de_if (dt_e (de_v 2 h2)) (fun hb9 => (de_min2 F (n_min T) (de_g F (g_MOST_DONE T)) (de_add (de_v 10 h10) de_int))) fun hb9 => (de_v 10 h10)) fun v4_ H8 e8 h4 => ?_
         replace h0 := dp_up (up_of e8) _ _ h0
         replace h1 := dp_up (up_of e8) _ _ h1
         replace h2 := dp_up (up_of e8) _ _ h2
         replace h3 := dp_up (up_of e8) _ _ h3
         replace h5 := dp_up (up_of e8) _ _ h5
         replace h6 := dp_up (up_of e8) _ _ h6
         replace h7 := dp_up (up_of e8) _ _ h7
         replace h8 := dp_up (up_of e8) _ _ h8
         replace h9 := dp_up (up_of e8) _ _ h9
         replace h10 := dp_up (up_of e8) _ _ h10
         replace h11 := dp_up (up_of e8) _ _ h11
         replace hq := hq.up e8
         show DSs _ _ [some v0_, some v1_, some v2_, some v3_, some v4_, some v5_, some v6_, some v7_, some v8_, some v9_, some v10_, some v11_] _ _
         exact ds_ret (de_tup (xa_d (de_f F (f_server_after T) (xa_d (de_v 5 h5) (xa_d (de_v 1 h1) xa_nil)) ⟨_, _, rfl, by first | trivial | assumption | omega | decide | simp_all, rfl⟩) (xa_d (de_v 6 h6) (xa_d (de_f F (f_copy_after T) (xa_d (de_v 5 h5) (xa_d (de_v 7 h7) (xa_d (de_v 1 h1) xa_nil))) ⟨_, _, _, rfl, by first | trivial | assumption | omega | decide | simp_all, rfl⟩) (xa_d de_int (xa_d (de_intb F (n_int T) (de_v 2 h2)) (xa_d (de_v 4 h4) (xa_d (de_v 3 h3) xa_nil)))))))) hq (by rfl)))
def pre_ticked (xs : List Dx) (r : PyData) : Prop := ∃ (s : StD), xs = [.d (s.d)] ∧ (True) ∧ r = (ticked s).d
theorem f_ticked : FnC P w K mg base 4 "ticked" (Spf K pre_ticked) := by
  refine fnC_pure (N := ["state", "later", "server", "number", "copy", "known", "own", "done", "late"]) (ps := ["state"]) (h_ticked T) (m_ticked T) ⟨rfl, rfl, rfl, by decide +kernel, rfl, by decide +kernel, by decide +kernel⟩ (fun _ _ _ _ _ _ us hl => match us, hl with | [_], _ => rfl) (fun xs r h => by
    obtain ⟨_, rfl, _⟩ := h
    rfl) ?_
  intro Y cdv A outer s_ H vs xs r Q E hY F hv hp hq
  subst hY
  obtain ⟨s, rfl, hc, rfl⟩ := hp
  obtain ⟨v0_, rfl, h0⟩ := vxs1 hv
  show DSs _ _ [some v0_, _, _, _, _, _, _, _, _] _ _
  refine ds_unp F (de_v 0 h0) (gn_cons F 2 (gn_cons F 3 (gn_cons F 4 (gn_cons F 5 (gn_cons F 6 (gn_cons F 7 (gn_cons F 8 gn_nil))))))) fun us1 H1 e1 hu1 => ?_
  replace h0 := dp_up (up_of e1) _ _ h0
  replace hq := hq.up e1
  obtain ⟨v2_, v3_, v4_, v5_, v6_, v7_, v8_, rfl, h2, h3, h4, h5, h6, h7, h8⟩ := dpa7 hu1
  show DSs _ _ [some v0_, _, some v2_, some v3_, some v4_, some v5_, some v6_, some v7_, some v8_] _ _
  refine ds_set (F := F) 1 (de_f F (f_late_after T) (xa_d (de_v 2 h2) (xa_d (de_v 8 h8) (xa_d (de_g F (g_TICK T)) xa_nil))) ⟨_, _, _, rfl, by first | trivial | assumption | omega | decide | simp_all, rfl⟩) fun v1_ H2 e2 h1 => ?_
  replace h0 := dp_up (up_of e2) _ _ h0
  replace h2 := dp_up (up_of e2) _ _ h2
  replace h3 := dp_up (up_of e2) _ _ h3
  replace h4 := dp_up (up_of e2) _ _ h4
  replace h5 := dp_up (up_of e2) _ _ h5
  replace h6 := dp_up (up_of e2) _ _ h6
  replace h7 := dp_up (up_of e2) _ _ h7
  replace h8 := dp_up (up_of e2) _ _ h8
  replace hq := hq.up e2
  show DSs _ _ [some v0_, some v1_, some v2_, some v3_, some v4_, some v5_, some v6_, some v7_, some v8_] _ _
  exact ds_ret (de_tup (xa_d (de_f F (f_server_after T) (xa_d (de_v 2 h2) (xa_d (de_g F (g_TICK T)) xa_nil)) ⟨_, _, rfl, by first | trivial | assumption | omega | decide | simp_all, rfl⟩) (xa_d (de_v 3 h3) (xa_d (de_f F (f_copy_after T) (xa_d (de_v 2 h2) (xa_d (de_v 4 h4) (xa_d (de_g F (g_TICK T)) xa_nil))) ⟨_, _, _, rfl, by first | trivial | assumption | omega | decide | simp_all, rfl⟩) (xa_d (de_v 5 h5) (xa_d (de_v 6 h6) (xa_d (de_v 7 h7) (xa_d (de_v 1 h1) xa_nil)))))))) hq (by first | rfl | (simp_all [bif_str]; done))
def pre_at_step (xs : List Dx) (r : PyData) : Prop := ∃ (s : StD) (n : Int), xs = [.d (s.d), .d (.int n)] ∧ (True) ∧ r = (StD.d { s with num := n })
theorem f_at_step : FnC P w K mg base 1 "at_step" (Spf K pre_at_step) := by
  refine fnC_pure (N := ["state", "number"]) (ps := ["state", "number"]) (h_at_step T) (m_at_step T) ⟨rfl, rfl, rfl, by decide +kernel, rfl, by decide +kernel, by decide +kernel⟩ (fun _ _ _ _ _ _ us hl => match us, hl with | [_, _], _ => rfl) (fun xs r h => by
    obtain ⟨_, _, rfl, _⟩ := h
    rfl) ?_
  intro Y cdv A outer s_ H vs xs r Q E hY F hv hp hq
  subst hY
  obtain ⟨s, n, rfl, hc, rfl⟩ := hp
  obtain ⟨v0_, v1_, rfl, h0, h1⟩ := vxs2 hv
  show DSs _ _ [some v0_, some v1_] _ _
  exact ds_ret (de_catT F (de_catT F (de_slT F (de_v 0 h0) oe_none (oe_some (K := K) de_int)) (de_tup (xa_d (de_v 1 h1) xa_nil))) (de_slT F (de_v 0 h0) (oe_some (K := K) de_int) oe_none)) hq (by first | rfl | (simp_all [bif_str]; done))
def pre_seen_now (xs : List Dx) (r : PyData) : Prop := ∃ (s : StD) (c : Cp), xs = [.d (s.d), .d (cpD c)] ∧ (True) ∧ r = (StD.d { s with cp := c, kn := 1 })
theorem f_seen_now : FnC P w K mg base 1 "seen_now" (Spf K pre_seen_now) := by
  refine fnC_pure (N := ["state", "copy"]) (ps := ["state", "copy"]) (h_seen_now T) (m_seen_now T) ⟨rfl, rfl, rfl, by decide +kernel, rfl, by decide +kernel, by decide +kernel⟩ (fun _ _ _ _ _ _ us hl => match us, hl with | [_, _], _ => rfl) (fun xs r h => by
    obtain ⟨_, _, rfl, _⟩ := h
    rfl) ?_
  intro Y cdv A outer s_ H vs xs r Q E hY F hv hp hq
  subst hY
  obtain ⟨s, c, rfl, hc, rfl⟩ := hp
  obtain ⟨v0_, v1_, rfl, h0, h1⟩ := vxs2 hv
  show DSs _ _ [some v0_, some v1_] _ _
  exact ds_ret (de_catT F (de_catT F (de_slT F (de_v 0 h0) oe_none (oe_some (K := K) de_int)) (de_tup (xa_d (de_v 1 h1) (xa_d de_int xa_nil)))) (de_slT F (de_v 0 h0) (oe_some (K := K) de_int) oe_none)) hq (by first | rfl | (simp_all [bif_str]; done))
end
end PK
namespace PK
open L2 PySem PySem.Spec PyProof.Rows
theorem strs_some : ∀ (zs : List Str), (zs.map PyData.str).all (fun d => (strD d).isSome) = true
  | [] => rfl
  | z :: zs => by
    rw [List.map_cons, List.all_cons, strs_some zs] <;> rfl
theorem bif_d {b : Bool} {x y : StD} : (bif b then StD.d x else StD.d y) = StD.d (bif b then x else y) := by cases b <;> rfl
theorem bif_pe {b : Bool} : (bif b then k_PRESENT else k_ELDER) = cpD (some (1, 1, 1, bif b then 1 else 0)) := by cases b <;> rfl
def endB : Stp → Bool
  | .fin _ => true
  | _ => false
def canHappen (o : Stp) (s : StD) (e : Str) (ot : List Str) (n : Str) : Bool :=
  if e = "tick" then true else if memS e [.str "great", .str "small", .str "take"] = true then memS e (ot.map .str) && (decide (e = "great") || isThere s.srv) else if e = "answered" then !endB o else if n = "sure" then false
  else if e = "unheard" then isDoneBy o s.srv s.cp else if e = "unsent" then isReq o else memS n [.str "late", .str "again"] && s.lt.isSome
theorem lt_ne {l : Lt} : (!PyData.eqv (ltD l) (.tuple [])) = l.isSome := by
  rcases l with _ | ⟨n, c, m⟩ <;> rfl
def EvOk (e : Str) : Prop := e = "great" ∨ e = "small" ∨ e = "take" ∨ e = "tick" ∨ e = "answered" ∨ e = "unheard" ∨ e = "unsent" ∨ e = "come"
section
variable {P : Program} {w : World} {K : PySem.W.Frag} {mg : Str → Option Value} {base : Heap} (T : Txt w K mg)
include T
def pre_can_happen (xs : List Dx) (r : PyData) : Prop := ∃ (ss : List PyData) (s : StD) (o : Stp) (e : Str) (ot : List Str) (n : Str), xs = [.scr ss, .d (s.d), .d (.str e), .d (.tuple (ot.map .str)), .d (.str n)] ∧ (EvOk e ∧ atI ss s.num = some o.d ∧ ConOk o) ∧ r = .bool (canHappen o s e ot n)
theorem f_can_happen : FnC P w K mg base 6 "can_happen" (Spf K pre_can_happen) := by
  refine fnC_pure (N := ["script", "state", "event", "others", "net", "one", "server", "number", "copy", "known", "own", "done", "late"]) (ps := ["script", "state", "event", "others", "net"]) (h_can_happen T) (m_can_happen T) ⟨rfl, rfl, rfl, by decide +kernel, rfl, by decide +kernel, by decide +kernel⟩ (fun _ _ _ _ _ _ us hl => match us, hl with | [_, _, _, _, _], _ => rfl) (fun xs r h => by
    obtain ⟨_, _, _, _, _, _, rfl, _⟩ := h
    rfl) ?_
  intro Y cdv A outer s_ H vs xs r Q E hY F hv hp hq
  subst hY
  obtain ⟨ss, s, o, e, ot, n, rfl, hc, rfl⟩ := hp
  obtain ⟨v0_, v1_, v2_, v3_, v4_, rfl, h0, h1, h2, h3, h4⟩ := vxs5 hv
  show DSs _ _ [some v0_, some v1_, some v2_, some v3_, some v4_, _, _, _, _, _, _, _, _] _ _
  (obtain ⟨he, hat, hco⟩ := hc; have hc := And.intro he (And.intro hat hco); clear he hat; have hz := strs_some ot; rcases hc.1 with rfl | rfl | rfl | rfl | rfl | rfl | rfl | rfl; rotate_left 4; rcases o with ⟨k, a, b, c1, d, e0⟩ | ⟨k, z, a, b, c1⟩ | ⟨k, a, b, c1, d⟩ | m | w_; rotate_left 6; rcases o with ⟨k, a, b, c1, d, e0⟩ | ⟨k, z, a, b, c1⟩ | ⟨k, a, b, c1, d⟩ | m | w_) <;> (
    refine ds_unp F (de_v 1 h1) (gn_cons F 6 (gn_cons F 7 (gn_cons F 8 (gn_cons F 9 (gn_cons F 10 (gn_cons F 11 (gn_cons F 12 gn_nil))))))) fun us1 H1 e1 hu1 => ?_
    replace h0 := vx_up (up_of e1) h0
    replace h1 := dp_up (up_of e1) _ _ h1
    replace h2 := dp_up (up_of e1) _ _ h2
    replace h3 := dp_up (up_of e1) _ _ h3
    replace h4 := dp_up (up_of e1) _ _ h4
    replace hq := hq.up e1
    obtain ⟨v6_, v7_, v8_, v9_, v10_, v11_, v12_, rfl, h6, h7, h8, h9, h10, h11, h12⟩ := dpa7 hu1
    show DSs _ _ [some v0_, some v1_, some v2_, some v3_, some v4_, _, some v6_, some v7_, some v8_, some v9_, some v10_, some v11_, some v12_] _ _
    refine ds_set (F := F) 5 (de_ixT F (de_steps F (c_Script T) (a_Script T) (xe_v 0 h0)) (de_v 7 h7) (hc.2.1)) fun v5_ H2 e2 h5 => ?_
    replace h0 := vx_up (up_of e2) h0
    replace h1 := dp_up (up_of e2) _ _ h1
    replace h2 := dp_up (up_of e2) _ _ h2
    replace h3 := dp_up (up_of e2) _ _ h3
    replace h4 := dp_up (up_of e2) _ _ h4
    replace h6 := dp_up (up_of e2) _ _ h6
    replace h7 := dp_up (up_of e2) _ _ h7
    replace h8 := dp_up (up_of e2) _ _ h8
    replace h9 := dp_up (up_of e2) _ _ h9
    replace h10 := dp_up (up_of e2) _ _ h10
    replace h11 := dp_up (up_of e2) _ _ h11
    replace h12 := dp_up (up_of e2) _ _ h12
    replace hq := hq.up e2
    show DSs _ _ [some v0_, some v1_, some v2_, some v3_, some v4_, some v5_, some v6_, some v7_, some v8_, some v9_, some v10_, some v11_, some v12_] _ _
    refine ds_if (dt_cmp (de_v 2 h2) (de_g F (g_TICK T)) (by first | exact cm_eqs | exact cm_eqi | exact cm_eqb | exact cm_eqD F (by first | rfl | exact shaped_cp _ | exact shaped_lt _) (by first | rfl | exact shaped_cp _))) (fun hb3 H3 e3 => ?_) (fun hb3 H3 e3 => ?_)
    · try first | exact Bool.noConfusion (show false = true from hb3) | exact absurd hb3 (by decide)
      all_goals
        (replace h0 := vx_up (up_of e3) h0
         replace h1 := dp_up (up_of e3) _ _ h1
         replace h2 := dp_up (up_of e3) _ _ h2
         replace h3 := dp_up (up_of e3) _ _ h3
         replace h4 := dp_up (up_of e3) _ _ h4
         replace h5 := dp_up (up_of e3) _ _ h5
         replace h6 := dp_up (up_of e3) _ _ h6
         replace h7 := dp_up (up_of e3) _ _ h7
         replace h8 := dp_up (up_of e3) _ _ h8
         replace h9 := dp_up (up_of e3) _ _ h9
         replace h10 := dp_up (up_of e3) _ _ h10
         replace h11 := dp_up (up_of e3) _ _ h11
         replace h12 := dp_up (up_of e3) _ _ h12
         replace hq := hq.up e3
         exact ds_ret de_bl hq (by first | rfl | (simp (config := { decide := true }) [canHappen, memS, unD, lt_ne, isReq, endB, *]; done) | (simp_all (config := { decide := true }) [canHappen, memS, unD, lt_ne, isReq, endB]; done)))
    · try first | exact Bool.noConfusion (show true = false from hb3) | exact absurd hb3 (by decide)
      all_goals
        (replace h0 := vx_up (up_of e3) h0
         replace h1 := dp_up (up_of e3) _ _ h1
         replace h2 := dp_up (up_of e3) _ _ h2
         replace h3 := dp_up (up_of e3) _ _ h3
         replace h4 := dp_up (up_of e3) _ _ h4
         replace h5 := dp_up (up_of e3) _ _ h5
         replace h6 := dp_up (up_of e3) _ _ h6
         replace h7 := dp_up (up_of e3) _ _ h7
         replace h8 := dp_up (up_of e3) _ _ h8
         replace h9 := dp_up (up_of e3) _ _ h9
         replace h10 := dp_up (up_of e3) _ _ h10
         replace h11 := dp_up (up_of e3) _ _ h11
         replace h12 := dp_up (up_of e3) _ _ h12
         replace hq := hq.up e3
         refine ds_if (dt_cmp (de_v 2 h2) (de_g F (g_WRITINGS T)) (by first | exact cm_inS F | exact cm_inS F (by assumption) | exact cm_inD F (by first | rfl | exact shaped_cp _) (by first | rfl | assumption))) (fun hb4 H4 e4 => ?_) (fun hb4 H4 e4 => ?_)
         · try first | exact Bool.noConfusion (show false = true from hb4) | exact absurd hb4 (by decide)
           all_goals
             (replace h0 := vx_up (up_of e4) h0
              replace h1 := dp_up (up_of e4) _ _ h1
              replace h2 := dp_up (up_of e4) _ _ h2
              replace h3 := dp_up (up_of e4) _ _ h3
              replace h4 := dp_up (up_of e4) _ _ h4
              replace h5 := dp_up (up_of e4) _ _ h5
              replace h6 := dp_up (up_of e4) _ _ h6
              replace h7 := dp_up (up_of e4) _ _ h7
              replace h8 := dp_up (up_of e4) _ _ h8
              replace h9 := dp_up (up_of e4) _ _ h9
              replace h10 := dp_up (up_of e4) _ _ h10
              replace h11 := dp_up (up_of e4) _ _ h11
              replace h12 := dp_up (up_of e4) _ _ h12
              replace hq := hq.up e4
              exact ds_ret (de_and (de_cmp (de_v 2 h2) (de_v 3 h3) (by first | exact cm_inS F | exact cm_inS F (by assumption) | exact cm_inD F (by first | rfl | exact shaped_cp _) (by first | rfl | assumption))) fun hb5 => (de_one (de_or (de_cmp (de_v 2 h2) (de_g F (g_GREAT T)) (by first | exact cm_eqs | exact cm_eqi | exact cm_eqb | exact cm_eqD F (by first | rfl | exact shaped_cp _ | exact shaped_lt _) (by first | rfl | exact shaped_cp _))) fun hb6 => (de_one (de_f F (f_is_there T) (xa_d (de_v 6 h6) xa_nil) ⟨_, rfl, by first | trivial | assumption | omega | decide | simp_all, rfl⟩))))) hq (by first | rfl | (simp (config := { decide := true }) [canHappen, memS, unD, lt_ne, isReq, endB, *]; done) | (simp_all (config := { decide := true }) [canHappen, memS, unD, lt_ne, isReq, endB]; done)))
         · try first | exact Bool.noConfusion (show true = false from hb4) | exact absurd hb4 (by decide)
           all_goals
             (replace h0 := vx_up (up_of e4) h0
              replace h1 := dp_up (up_of e4) _ _ h1
              replace h2 := dp_up (up_of e4) _ _ h2
              replace h3 := dp_up (up_of e4) _ _ h3
              replace h4 := dp_up (up_of e4) _ _ h4
              replace h5 := dp_up (up_of e4) _ _ h5
              replace h6 := dp_up (up_of e4) _ _ h6
              replace h7 := dp_up (up_of e4) _ _ h7
              replace h8 := dp_up (up_of e4) _ _ h8
              replace h9 := dp_up (up_of e4) _ _ h9
              replace h10 := dp_up (up_of e4) _ _ h10
              replace h11 := dp_up (up_of e4) _ _ h11
              replace h12 := dp_up (up_of e4) _ _ h12
              replace hq := hq.up e4
              refine ds_if (dt_cmp (de_v 2 h2) (de_g F (g_ANSWERED T)) (by first | exact cm_eqs | exact cm_eqi | exact cm_eqb | exact cm_eqD F (by first | rfl | exact shaped_cp _ | exact shaped_lt _) (by first | rfl | exact shaped_cp _))) (fun hb7 H7 e7 => ?_) (fun hb7 H7 e7 => ?_)
              · try first | exact Bool.noConfusion (show false = true from hb7) | exact absurd hb7 (by decide)
                all_goals
                  (replace h0 := vx_up (up_of e7) h0
                   replace h1 := dp_up (up_of e7) _ _ h1
                   replace h2 := dp_up (up_of e7) _ _ h2
                   replace h3 := dp_up (up_of e7) _ _ h3
                   replace h4 := dp_up (up_of e7) _ _ h4
                   replace h5 := dp_up (up_of e7) _ _ h5
                   replace h6 := dp_up (up_of e7) _ _ h6
                   replace h7 := dp_up (up_of e7) _ _ h7
                   replace h8 := dp_up (up_of e7) _ _ h8
                   replace h9 := dp_up (up_of e7) _ _ h9
                   replace h10 := dp_up (up_of e7) _ _ h10
                   replace h11 := dp_up (up_of e7) _ _ h11
                   replace h12 := dp_up (up_of e7) _ _ h12
                   replace hq := hq.up e7
                   exact ds_ret (de_cmp (de_ixT F (de_v 5 h5) de_int) (de_g F (g_END T)) (by first | exact cm_nes | exact cm_nei | exact cm_neD F (by first | rfl | exact shaped_cp _ | exact shaped_lt _) (by first | rfl | exact shaped_cp _))) hq (by first | rfl | (simp (config := { decide := true }) [canHappen, memS, unD, lt_ne, isReq, endB, *]; done) | (simp_all (config := { decide := true }) [canHappen, memS, unD, lt_ne, isReq, endB]; done)))
              · try first | exact Bool.noConfusion (show true = false from hb7) | exact absurd hb7 (by decide)
                all_goals
                  (replace h0 := vx_up (up_of e7) h0
                   replace h1 := dp_up (up_of e7) _ _ h1
                   replace h2 := dp_up (up_of e7) _ _ h2
                   replace h3 := dp_up (up_of e7) _ _ h3
                   replace h4 := dp_up (up_of e7) _ _ h4
                   replace h5 := dp_up (up_of e7) _ _ h5
                   replace h6 := dp_up (up_of e7) _ _ h6
                   replace h7 := dp_up (up_of e7) _ _ h7
                   replace h8 := dp_up (up_of e7) _ _ h8
                   replace h9 := dp_up (up_of e7) _ _ h9
                   replace h10 := dp_up (up_of e7) _ _ h10
                   replace h11 := dp_up (up_of e7) _ _ h11
                   replace h12 := dp_up (up_of e7) _ _ h12
                   replace hq := hq.up e7
                   refine ds_if (dt_cmp (de_v 4 h4) (de_g F (g_SURE T)) (by first | exact cm_eqs | exact cm_eqi | exact cm_eqb | exact cm_eqD F (by first | rfl | exact shaped_cp _ | exact shaped_lt _) (by first | rfl | exact shaped_cp _))) (fun hb8 H8 e8 => ?_) (fun hb8 H8 e8 => ?_)
                   · try first | exact Bool.noConfusion (show false = true from hb8) | exact absurd hb8 (by decide)
                     all_goals
                       (replace h0 := vx_up (up_of e8) h0
                        replace h1 := dp_up (up_of e8) _ _ h1
                        replace h2 := dp_up (up_of e8) _ _ h2
                        replace h3 := dp_up (up_of e8) _ _ h3
                        replace h4 := dp_up (up_of e8) _ _ h4
                        replace h5 := dp_up (up_of e8) _ _ h5
                        replace h6 := dp_up (up_of e8) _ _ h6
                        replace h7 := dp_up (up_of e8) _ _ h7
                        replace h8 := dp_up (up_of e8) _ _ h8
                        replace h9 := dp_up (up_of e8) _ _ h9
                        replace h10 := dp_up (up_of e8) _ _ h10
                        replace h11 := dp_up (up_of e8) _ _ h11
                        replace h12 := dp_up (up_of e8) _ _ h12
                        replace hq := hq.up e8
                        exact ds_ret de_bl hq (by first | rfl | (simp (config := { decide := true }) [canHappen, memS, unD, lt_ne, isReq, endB, *]; done) | (simp_all (config := { decide := true }) [canHappen, memS, unD, lt_ne, isReq, endB]; done)))
                   · try first | exact Bool.noConfusion (show true = false from hb8) | exact absurd hb8 (by decide)
                     all_goals
                       (replace h0 := vx_up (up_of e8) h0
                        replace h1 := dp_up (up_of e8) _ _ h1
                        replace h2 := dp_up (up_of e8) _ _ h2
                        replace h3 := dp_up (up_of e8) _ _ h3
                        replace h4 := dp_up (up_of e8) _ _ h4
                        replace h5 := dp_up (up_of e8) _ _ h5
                        replace h6 := dp_up (up_of e8) _ _ h6
                        replace h7 := dp_up (up_of e8) _ _ h7
                        replace h8 := dp_up (up_of e8) _ _ h8
                        replace h9 := dp_up (up_of e8) _ _ h9
                        replace h10 := dp_up (up_of e8) _ _ h10
                        replace h11 := dp_up (up_of e8) _ _ h11
                        replace h12 := dp_up (up_of e8) _ _ h12
                        replace hq := hq.up e8
                        refine ds_if (dt_cmp (de_v 2 h2) (de_g F (g_UNHEARD T)) (by first | exact cm_eqs | exact cm_eqi | exact cm_eqb | exact cm_eqD F (by first | rfl | exact shaped_cp _ | exact shaped_lt _) (by first | rfl | exact shaped_cp _))) (fun hb9 H9 e9 => ?_) (fun hb9 H9 e9 => ?_)
                        · try first | exact Bool.noConfusion (show false = true from hb9) | exact absurd hb9 (by decide)
                          all_goals
                            (replace h0 := vx_up (up_of e9) h0
                             replace h1 := dp_up (up_of e9) _ _ h1
                             replace h2 := dp_up (up_of e9) _ _ h2
                             replace h3 := dp_up (up_of e9) _ _ h3
                             replace h4 := dp_up (up_of e9) _ _ h4
                             replace h5 := dp_up (up_of e9) _ _ h5
                             replace h6 := dp_up (up_of e9) _ _ h6
                             replace h7 := dp_up (up_of e9) _ _ h7
                             replace h8 := dp_up (up_of e9) _ _ h8
                             replace h9 := dp_up (up_of e9) _ _ h9
                             replace h10 := dp_up (up_of e9) _ _ h10
                             replace h11 := dp_up (up_of e9) _ _ h11
                             replace h12 := dp_up (up_of e9) _ _ h12
                             replace hq := hq.up e9
                             exact ds_ret (de_f F (f_is_done_by T) (xa_d (de_v 5 h5) (xa_d (de_v 6 h6) (xa_d (de_v 8 h8) xa_nil))) ⟨_, _, _, rfl, hc.2.2, rfl⟩) hq (by first | rfl | (simp (config := { decide := true }) [canHappen, memS, unD, lt_ne, isReq, endB, *]; done) | (simp_all (config := { decide := true }) [canHappen, memS, unD, lt_ne, isReq, endB]; done)))
                        · try first | exact Bool.noConfusion (show true = false from hb9) | exact absurd hb9 (by decide)
                          all_goals
                            (replace h0 := vx_up (up_of e9) h0
                             replace h1 := dp_up (up_of e9) _ _ h1
                             replace h2 := dp_up (up_of e9) _ _ h2
                             replace h3 := dp_up (up_of e9) _ _ h3
                             replace h4 := dp_up (up_of e9) _ _ h4
                             replace h5 := dp_up (up_of e9) _ _ h5
                             replace h6 := dp_up (up_of e9) _ _ h6
                             replace h7 := dp_up (up_of e9) _ _ h7
                             replace h8 := dp_up (up_of e9) _ _ h8
                             replace h9 := dp_up (up_of e9) _ _ h9
                             replace h10 := dp_up (up_of e9) _ _ h10
                             replace h11 := dp_up (up_of e9) _ _ h11
                             replace h12 := dp_up (up_of e9) _ _ h12
                             replace hq := hq.up e9
                             refine ds_if (dt_cmp (de_v 2 h2) (de_g F (g_UNSENT T)) (by first | exact cm_eqs | exact cm_eqi | exact cm_eqb | exact cm_eqD F (by first | rfl | exact shaped_cp _ | exact shaped_lt _) (by first | rfl | exact shaped_cp _))) (fun hb10 H10 e10 => ?_) (fun hb10 H10 e10 => ?_)
                             · try first | exact Bool.noConfusion (show false = true from hb10) | exact absurd hb10 (by decide)
                               all_goals
                                 (replace h0 := vx_up (up_of e10) h0
                                  replace h1 := dp_up (up_of e10) _ _ h1
                                  replace h2 := dp_up (up_of e10) _ _ h2
                                  replace h3 := dp_up (up_of e10) _ _ h3
                                  replace h4 := dp_up (up_of e10) _ _ h4
                                  replace h5 := dp_up (up_of e10) _ _ h5
                                  replace h6 := dp_up (up_of e10) _ _ h6
                                  replace h7 := dp_up (up_of e10) _ _ h7
                                  replace h8 := dp_up (up_of e10) _ _ h8
                                  replace h9 := dp_up (up_of e10) _ _ h9
                                  replace h10 := dp_up (up_of e10) _ _ h10
                                  replace h11 := dp_up (up_of e10) _ _ h11
                                  replace h12 := dp_up (up_of e10) _ _ h12
                                  replace hq := hq.up e10
                                  exact ds_ret (de_cmp (de_ixT F (de_v 5 h5) de_int) (de_tup (xa_d (de_g F (g_END T)) (xa_d (de_g F (g_FORGET T)) xa_nil))) (by first | exact cm_niS F | exact cm_niS F (by assumption))) hq (by first | rfl | (simp (config := { decide := true }) [canHappen, memS, unD, lt_ne, isReq, endB, *]; done) | (simp_all (config := { decide := true }) [canHappen, memS, unD, lt_ne, isReq, endB]; done)))
                             · try first | exact Bool.noConfusion (show true = false from hb10) | exact absurd hb10 (by decide)
                               all_goals
                                 (replace h0 := vx_up (up_of e10) h0
                                  replace h1 := dp_up (up_of e10) _ _ h1
                                  replace h2 := dp_up (up_of e10) _ _ h2
                                  replace h3 := dp_up (up_of e10) _ _ h3
                                  replace h4 := dp_up (up_of e10) _ _ h4
                                  replace h5 := dp_up (up_of e10) _ _ h5
                                  replace h6 := dp_up (up_of e10) _ _ h6
                                  replace h7 := dp_up (up_of e10) _ _ h7
                                  replace h8 := dp_up (up_of e10) _ _ h8
                                  replace h9 := dp_up (up_of e10) _ _ h9
                                  replace h10 := dp_up (up_of e10) _ _ h10
                                  replace h11 := dp_up (up_of e10) _ _ h11
                                  replace h12 := dp_up (up_of e10) _ _ h12
                                  replace hq := hq.up e10
                                  exact ds_ret (de_and (de_cmp (de_v 4 h4) (de_tup (xa_d (de_g F (g_LATE_NET T)) (xa_d (de_g F (g_AGAIN T)) xa_nil))) (by first | exact cm_inS F | exact cm_inS F (by assumption) | exact cm_inD F (by first | rfl | exact shaped_cp _) (by first | rfl | assumption))) fun hb11 => (de_one (de_cmp (de_v 12 h12) (de_tup xa_nil) (by first | exact cm_nes | exact cm_nei | exact cm_neD F (by first | rfl | exact shaped_cp _ | exact shaped_lt _) (by first | rfl | exact shaped_cp _))))) hq (by first | rfl | (simp (config := { decide := true }) [canHappen, memS, unD, lt_ne, isReq, endB, *]; done) | (simp_all (config := { decide := true }) [canHappen, memS, unD, lt_ne, isReq, endB]; done)))))))))
end
end PK
namespace PK
open L2 PySem PySem.Spec PyProof.Rows
def midD (x : Str) (b : Bool) : Str := if x = "got" ∧ b = true then "mine" else x
def putCp : Stp → Cp
  | .put _ _ _ _ _ => some (1, 1, 1, 1)
  | _ => none
def ansStep (o : Stp) (s : StD) (x : Str) : StD :=
  if x = "got" ∨ x = "mine" then { s with num := nextD o x, cp := some (1, 1, 1, bif decide (s.srv = "fresh") then 1 else 0), kn := 1 }
  else if x = "yes" then { acted { s with num := nextD o x } (actOf o) true with cp := putCp o, kn := 1 }
  else if x = "absent" then { s with num := nextD o x, cp := none, kn := 1 } else { s with num := nextD o x }
def answeredD (o : Stp) (s : StD) : StD := match o with
  | .forget n => { s with num := n, cp := none }
  | o => ansStep o s (midD (ansTo o s.srv s.cp) (decide (s.ow = 1)))
def sentM (s : StD) : Int := if s.kn = 1 ∨ s.ow = 1 then 1 else 0
def unheardD (o : Stp) (s : StD) (n : Str) : StD := bif decide (n = "again") then { acted s (actOf o) true with num := nextD o "lost", lt := some (s.num, copyAfter s.srv s.cp (actOf o), sentM s) } else { acted s (actOf o) true with num := nextD o "lost" }
def unsentD (o : Stp) (s : StD) (n : Str) : StD := bif decide (n = "lost") || !isWr o then { s with num := nextD o "lost" } else { s with num := nextD o "lost", lt := some (s.num, s.cp, sentM s) }
def comeL (o : Stp) (s : StD) (c : Cp) : StD := bif isDoneBy o s.srv c then acted s (actOf o) true else s
def comeD (o : Stp) (s : StD) (c : Cp) (n : Str) : StD := bif decide (n = "again") then comeL o s c else { comeL o s c with lt := none }
theorem read_got (s : Str) (c : Cp) (k : Str) : readBy s c k = "got" ∨ readBy s c k = "unchanged" ∨ readBy s c k = "absent" := by
  unfold readBy
  cases isThere s <;> cases isLeftOut c k <;> cases matchesC c k <;> simp
theorem put_yes (s : Str) (c : Cp) (k : Str) : putBy s c k = "yes" ∨ putBy s c k = "no" := by
  unfold putBy
  cases doesHold s c k <;> simp
theorem take_yes (s : Str) (c : Cp) (k : Str) : takeBy s c k = "yes" ∨ takeBy s c k = "no" ∨ takeBy s c k = "absent" := by
  unfold takeBy
  cases isThere s <;> cases isLeftOut c k <;> cases doesHold s c k <;> simp
def AnsW : Stp → Str → Prop
  | .read _ _ _ _ _ _, x => x = "got" ∨ x = "unchanged" ∨ x = "absent"
  | .put _ _ _ _ _, x => x = "yes" ∨ x = "no"
  | .take _ _ _ _ _, x => x = "yes" ∨ x = "no" ∨ x = "absent"
  | _, _ => True
theorem ans_split (o : Stp) (s : StD) : ∃ x b, ansTo o s.srv s.cp = x ∧ decide (s.ow = 1) = b ∧ AnsW o x := by
  refine ⟨_, _, rfl, rfl, ?_⟩
  cases o with
  | read => exact read_got _ _ _
  | put => exact put_yes _ _ _
  | take => exact take_yes _ _ _
  | _ => trivial
theorem answered_eq {o : Stp} {s : StD} {x : Str} {b : Bool} (hr : isReq o = true) (hA : ansTo o s.srv s.cp = x) (hO : decide (s.ow = 1) = b) : answeredD o s = ansStep o s (midD x b) := by
  subst hA hO
  cases o <;> first | rfl | cases hr
theorem md_unchanged (b : Bool) : midD "unchanged" b = "unchanged" := by cases b <;> decide
theorem md_absent (b : Bool) : midD "absent" b = "absent" := by cases b <;> decide
theorem md_yes (b : Bool) : midD "yes" b = "yes" := by cases b <;> decide
theorem md_no (b : Bool) : midD "no" b = "no" := by cases b <;> decide
theorem md_gt : midD "got" true = "mine" := by decide
theorem md_gf : midD "got" false = "got" := by decide
theorem as_got (o : Stp) (s : StD) : ansStep o s "got" = { s with num := nextD o "got", cp := some (1, 1, 1, bif decide (s.srv = "fresh") then 1 else 0), kn := 1 } := by
  unfold ansStep
  rw [if_pos (by decide)]
theorem as_mine (o : Stp) (s : StD) : ansStep o s "mine" = { s with num := nextD o "mine", cp := some (1, 1, 1, bif decide (s.srv = "fresh") then 1 else 0), kn := 1 } := by
  unfold ansStep
  rw [if_pos (by decide)]
theorem as_yes (o : Stp) (s : StD) : ansStep o s "yes" = { acted { s with num := nextD o "yes" } (actOf o) true with cp := putCp o, kn := 1 } := by
  unfold ansStep
  rw [if_neg (by decide), if_pos (by decide)]
theorem as_absent (o : Stp) (s : StD) : ansStep o s "absent" = { s with num := nextD o "absent", cp := none, kn := 1 } := by
  unfold ansStep
  rw [if_neg (by decide), if_neg (by decide), if_pos (by decide)]
theorem as_no (o : Stp) (s : StD) : ansStep o s "no" = { s with num := nextD o "no" } := by
  unfold ansStep
  rw [if_neg (by decide), if_neg (by decide), if_neg (by decide)]
theorem as_unchanged (o : Stp) (s : StD) : ansStep o s "unchanged" = { s with num := nextD o "unchanged" } := by
  unfold ansStep
  rw [if_neg (by decide), if_neg (by decide), if_neg (by decide)]
/-- the number of a step that the words tell -/
def At (ss : List PyData) (n : Int) (o : Stp) : Prop := atI ss n = some o.d ∧ ConOk o
section
variable {P : Program} {w : World} {K : PySem.W.Frag} {mg : Str → Option Value} {base : Heap} (T : Txt w K mg)
include T
def pre_answered (xs : List Dx) (r : PyData) : Prop := ∃ (ss : List PyData) (s : StD) (o : Stp), xs = [.scr ss, .d (s.d)] ∧ (At ss s.num o ∧ endB o = false) ∧ r = (answeredD o s).d
theorem f_answered : FnC P w K mg base 5 "answered" (Spf K pre_answered) := by
  refine fnC_pure (N := ["script", "state", "one", "answer", "here", "server", "number", "copy", "known", "own", "done", "late"]) (ps := ["script", "state"]) (h_answered T) (m_answered T) ⟨rfl, rfl, rfl, by decide +kernel, rfl, by decide +kernel, by decide +kernel⟩ (fun _ _ _ _ _ _ us hl => match us, hl with | [_, _], _ => rfl) (fun xs r h => by
    obtain ⟨_, _, _, rfl, _⟩ := h
    rfl) ?_
  intro Y cdv A outer s_ H vs xs r Q E hY F hv hp hq
  subst hY
  obtain ⟨ss, s, o, rfl, hc, rfl⟩ := hp
  obtain ⟨v0_, v1_, rfl, h0, h1⟩ := vxs2 hv
  obtain ⟨x, b, hA, hO, hW⟩ := ans_split o s
  show DSs _ _ [some v0_, some v1_, _, _, _, _, _, _, _, _, _, _] _ _
  (rcases o with ⟨k, a, a1, a2, a3, a4⟩ | ⟨k, z, a, a1, a2⟩ | ⟨k, a, a1, a2, a3⟩ | m | w_; (rcases hW with rfl | rfl | rfl <;> cases b); rotate_left 6; (rcases hW with rfl | rfl <;> cases b); rotate_left 4; (rcases hW with rfl | rfl | rfl <;> cases b); rotate_left 6; rotate_left 1; exact Bool.noConfusion (show true = false from hc.2); all_goals (try rw [answered_eq rfl hA hO] at hq; simp only [md_unchanged, md_absent, md_yes, md_no, md_gt, md_gf, as_got, as_mine, as_yes, as_absent, as_no, as_unchanged] at hq)) <;> (
    refine ds_unp F (de_v 1 h1) (gn_cons F 5 (gn_cons F 6 (gn_cons F 7 (gn_cons F 8 (gn_cons F 9 (gn_cons F 10 (gn_cons F 11 gn_nil))))))) fun us1 H1 e1 hu1 => ?_
    replace h0 := vx_up (up_of e1) h0
    replace h1 := dp_up (up_of e1) _ _ h1
    replace hq := hq.up e1
    obtain ⟨v5_, v6_, v7_, v8_, v9_, v10_, v11_, rfl, h5, h6, h7, h8, h9, h10, h11⟩ := dpa7 hu1
    show DSs _ _ [some v0_, some v1_, _, _, _, some v5_, some v6_, some v7_, some v8_, some v9_, some v10_, some v11_] _ _
    refine ds_set (F := F) 2 (de_ixT F (de_steps F (c_Script T) (a_Script T) (xe_v 0 h0)) (de_v 6 h6) (hc.1.1)) fun v2_ H2 e2 h2 => ?_
    replace h0 := vx_up (up_of e2) h0
    replace h1 := dp_up (up_of e2) _ _ h1
    replace h5 := dp_up (up_of e2) _ _ h5
    replace h6 := dp_up (up_of e2) _ _ h6
    replace h7 := dp_up (up_of e2) _ _ h7
    replace h8 := dp_up (up_of e2) _ _ h8
    replace h9 := dp_up (up_of e2) _ _ h9
    replace h10 := dp_up (up_of e2) _ _ h10
    replace h11 := dp_up (up_of e2) _ _ h11
    replace hq := hq.up e2
    show DSs _ _ [some v0_, some v1_, some v2_, _, _, some v5_, some v6_, some v7_, some v8_, some v9_, some v10_, some v11_] _ _
    refine ds_if (dt_cmp (de_ixT F (de_v 2 h2) de_int) (de_g F (g_FORGET T)) (by first | exact cm_eqs | exact cm_eqi | exact cm_eqb | exact cm_eqD F (by first | rfl | exact shaped_cp _ | exact shaped_lt _) (by first | rfl | exact shaped_cp _))) (fun hb3 H3 e3 => ?_) (fun hb3 H3 e3 => ?_)
    · try first | exact Bool.noConfusion (show false = true from hb3) | exact absurd hb3 (by decide)
      all_goals
        (replace h0 := vx_up (up_of e3) h0
         replace h1 := dp_up (up_of e3) _ _ h1
         replace h2 := dp_up (up_of e3) _ _ h2
         replace h5 := dp_up (up_of e3) _ _ h5
         replace h6 := dp_up (up_of e3) _ _ h6
         replace h7 := dp_up (up_of e3) _ _ h7
         replace h8 := dp_up (up_of e3) _ _ h8
         replace h9 := dp_up (up_of e3) _ _ h9
         replace h10 := dp_up (up_of e3) _ _ h10
         replace h11 := dp_up (up_of e3) _ _ h11
         replace hq := hq.up e3
         exact ds_ret (de_catT F (de_tup (xa_d (de_v 5 h5) (xa_d (de_ixT F (de_v 2 h2) de_int) (xa_d (DE.is (de_tup xa_nil) (show _ = cpD none from rfl)) xa_nil)))) (de_slT F (de_v 1 h1) (oe_some (K := K) de_int) oe_none)) hq (by rfl))
    · try first | exact Bool.noConfusion (show true = false from hb3) | exact absurd hb3 (by decide)
      all_goals
        (replace h0 := vx_up (up_of e3) h0
         replace h1 := dp_up (up_of e3) _ _ h1
         replace h2 := dp_up (up_of e3) _ _ h2
         replace h5 := dp_up (up_of e3) _ _ h5
         replace h6 := dp_up (up_of e3) _ _ h6
         replace h7 := dp_up (up_of e3) _ _ h7
         replace h8 := dp_up (up_of e3) _ _ h8
         replace h9 := dp_up (up_of e3) _ _ h9
         replace h10 := dp_up (up_of e3) _ _ h10
         replace h11 := dp_up (up_of e3) _ _ h11
         replace hq := hq.up e3
         refine ds_set (F := F) 3 (DE.is (de_f F (f_answer_to T) (xa_d (de_v 2 h2) (xa_d (de_v 5 h5) (xa_d (de_v 7 h7) xa_nil))) ⟨_, _, _, rfl, ⟨hc.1.2, rfl⟩, rfl⟩) (congrArg PyData.str hA)) fun v3_ H4 e4 h3 => ?_
         replace h0 := vx_up (up_of e4) h0
         replace h1 := dp_up (up_of e4) _ _ h1
         replace h2 := dp_up (up_of e4) _ _ h2
         replace h5 := dp_up (up_of e4) _ _ h5
         replace h6 := dp_up (up_of e4) _ _ h6
         replace h7 := dp_up (up_of e4) _ _ h7
         replace h8 := dp_up (up_of e4) _ _ h8
         replace h9 := dp_up (up_of e4) _ _ h9
         replace h10 := dp_up (up_of e4) _ _ h10
         replace h11 := dp_up (up_of e4) _ _ h11
         replace hq := hq.up e4
         show DSs _ _ [some v0_, some v1_, some v2_, some v3_, _, some v5_, some v6_, some v7_, some v8_, some v9_, some v10_, some v11_] _ _
         refine ds_if (dt_w (dw_and (dt_cmp (de_v 3 h3) (de_g F (g_GOT T)) (by first | exact cm_eqs | exact cm_eqi | exact cm_eqb | exact cm_eqD F (by first | rfl | exact shaped_cp _ | exact shaped_lt _) (by first | rfl | exact shaped_cp _))) fun _ => dw_one_and (DT.is (dt_cmp (de_v 9 h9) de_int (by first | exact cm_eqs | exact cm_eqi | exact cm_eqb | exact cm_eqD F (by first | rfl | exact shaped_cp _ | exact shaped_lt _) (by first | rfl | exact shaped_cp _))) hO))) (fun hb5 H5 e5 => ?_) (fun hb5 H5 e5 => ?_)
         · try first | exact Bool.noConfusion (show false = true from hb5) | exact absurd hb5 (by decide)
           all_goals
             (replace h0 := vx_up (up_of e5) h0
              replace h1 := dp_up (up_of e5) _ _ h1
              replace h2 := dp_up (up_of e5) _ _ h2
              replace h3 := dp_up (up_of e5) _ _ h3
              replace h5 := dp_up (up_of e5) _ _ h5
              replace h6 := dp_up (up_of e5) _ _ h6
              replace h7 := dp_up (up_of e5) _ _ h7
              replace h8 := dp_up (up_of e5) _ _ h8
              replace h9 := dp_up (up_of e5) _ _ h9
              replace h10 := dp_up (up_of e5) _ _ h10
              replace h11 := dp_up (up_of e5) _ _ h11
              replace hq := hq.up e5
              refine ds_set (F := F) 3 (de_g F (g_MINE T)) fun v3_ H6 e6 h3 => ?_
              replace h0 := vx_up (up_of e6) h0
              replace h1 := dp_up (up_of e6) _ _ h1
              replace h2 := dp_up (up_of e6) _ _ h2
              replace h5 := dp_up (up_of e6) _ _ h5
              replace h6 := dp_up (up_of e6) _ _ h6
              replace h7 := dp_up (up_of e6) _ _ h7
              replace h8 := dp_up (up_of e6) _ _ h8
              replace h9 := dp_up (up_of e6) _ _ h9
              replace h10 := dp_up (up_of e6) _ _ h10
              replace h11 := dp_up (up_of e6) _ _ h11
              replace hq := hq.up e6
              show DSs _ _ [some v0_, some v1_, some v2_, some v3_, _, some v5_, some v6_, some v7_, some v8_, some v9_, some v10_, some v11_] _ _
              refine ds_nil ?_
              show DSs _ _ _ _ _
              refine ds_set (F := F) 4 (de_f F (f_at_step T) (xa_d (de_v 1 h1) (xa_d (de_f F (f_next_behind T) (xa_d (de_v 2 h2) (xa_d (de_v 3 h3) xa_nil)) ⟨_, _, rfl, by simp [AnsOk], rfl⟩) xa_nil)) ⟨_, _, rfl, by first | trivial | assumption | omega | decide | simp_all, rfl⟩) fun v4_ H7 e7 h4 => ?_
              replace h0 := vx_up (up_of e7) h0
              replace h1 := dp_up (up_of e7) _ _ h1
              replace h2 := dp_up (up_of e7) _ _ h2
              replace h3 := dp_up (up_of e7) _ _ h3
              replace h5 := dp_up (up_of e7) _ _ h5
              replace h6 := dp_up (up_of e7) _ _ h6
              replace h7 := dp_up (up_of e7) _ _ h7
              replace h8 := dp_up (up_of e7) _ _ h8
              replace h9 := dp_up (up_of e7) _ _ h9
              replace h10 := dp_up (up_of e7) _ _ h10
              replace h11 := dp_up (up_of e7) _ _ h11
              replace hq := hq.up e7
              show DSs _ _ [some v0_, some v1_, some v2_, some v3_, some v4_, some v5_, some v6_, some v7_, some v8_, some v9_, some v10_, some v11_] _ _
              refine ds_if (dt_cmp (de_v 3 h3) (de_tup (xa_d (de_g F (g_GOT T)) (xa_d (de_g F (g_MINE T)) xa_nil))) (by first | exact cm_inS F | exact cm_inS F (by assumption) | exact cm_inD F (by first | rfl | exact shaped_cp _) (by first | rfl | assumption))) (fun hb8 H8 e8 => ?_) (fun hb8 H8 e8 => ?_)
              · try first | exact Bool.noConfusion (show false = true from hb8) | exact absurd hb8 (by decide)
                all_goals
                  (replace h0 := vx_up (up_of e8) h0
                   replace h1 := dp_up (up_of e8) _ _ h1
                   replace h2 := dp_up (up_of e8) _ _ h2
                   replace h3 := dp_up (up_of e8) _ _ h3
                   replace h4 := dp_up (up_of e8) _ _ h4
                   replace h5 := dp_up (up_of e8) _ _ h5
                   replace h6 := dp_up (up_of e8) _ _ h6
                   replace h7 := dp_up (up_of e8) _ _ h7
                   replace h8 := dp_up (up_of e8) _ _ h8
                   replace h9 := dp_up (up_of e8) _ _ h9
                   replace h10 := dp_up (up_of e8) _ _ h10
                   replace h11 := dp_up (up_of e8) _ _ h11
                   replace hq := hq.up e8
                   exact ds_ret (de_f F (f_seen_now T) (xa_d (de_v 4 h4) (xa_d (DE.is (de_if (dt_cmp (de_v 5 h5) de_str (by first | exact cm_eqs | exact cm_eqi | exact cm_eqb | exact cm_eqD F (by first | rfl | exact shaped_cp _ | exact shaped_lt _) (by first | rfl | exact shaped_cp _))) (fun hb9 => (de_g F (g_PRESENT T))) fun hb9 => (de_g F (g_ELDER T))) bif_pe) xa_nil)) ⟨_, _, rfl, by first | trivial | assumption | omega | decide | simp_all, rfl⟩) hq (by rfl))
              · try first | exact Bool.noConfusion (show true = false from hb8) | exact absurd hb8 (by decide)
                all_goals
                  (replace h0 := vx_up (up_of e8) h0
                   replace h1 := dp_up (up_of e8) _ _ h1
                   replace h2 := dp_up (up_of e8) _ _ h2
                   replace h3 := dp_up (up_of e8) _ _ h3
                   replace h4 := dp_up (up_of e8) _ _ h4
                   replace h5 := dp_up (up_of e8) _ _ h5
                   replace h6 := dp_up (up_of e8) _ _ h6
                   replace h7 := dp_up (up_of e8) _ _ h7
                   replace h8 := dp_up (up_of e8) _ _ h8
                   replace h9 := dp_up (up_of e8) _ _ h9
                   replace h10 := dp_up (up_of e8) _ _ h10
                   replace h11 := dp_up (up_of e8) _ _ h11
                   replace hq := hq.up e8
                   refine ds_if (dt_cmp (de_v 3 h3) (de_g F (g_YES T)) (by first | exact cm_eqs | exact cm_eqi | exact cm_eqb | exact cm_eqD F (by first | rfl | exact shaped_cp _ | exact shaped_lt _) (by first | rfl | exact shaped_cp _))) (fun hb10 H10 e10 => ?_) (fun hb10 H10 e10 => ?_)
                   · try first | exact Bool.noConfusion (show false = true from hb10) | exact absurd hb10 (by decide)
                     all_goals
                       (replace h0 := vx_up (up_of e10) h0
                        replace h1 := dp_up (up_of e10) _ _ h1
                        replace h2 := dp_up (up_of e10) _ _ h2
                        replace h3 := dp_up (up_of e10) _ _ h3
                        replace h4 := dp_up (up_of e10) _ _ h4
                        replace h5 := dp_up (up_of e10) _ _ h5
                        replace h6 := dp_up (up_of e10) _ _ h6
                        replace h7 := dp_up (up_of e10) _ _ h7
                        replace h8 := dp_up (up_of e10) _ _ h8
                        replace h9 := dp_up (up_of e10) _ _ h9
                        replace h10 := dp_up (up_of e10) _ _ h10
                        replace h11 := dp_up (up_of e10) _ _ h11
                        replace hq := hq.up e10
                        exact ds_ret (de_f F (f_seen_now T) (xa_d (de_f F (f_acted T) (xa_d (de_v 4 h4) (xa_d (de_f F (f_act_of T) (xa_d (de_v 2 h2) xa_nil) ⟨_, rfl, rfl, rfl⟩) (xa_d de_bl xa_nil))) ⟨_, _, _, rfl, by first | trivial | assumption | omega | decide | simp_all, rfl⟩) (xa_d (by first | exact DE.is (de_if (dt_cmp (de_ixT F (de_v 2 h2) de_int) (de_g F (g_PUT T)) (by first | exact cm_eqs | exact cm_eqi | exact cm_eqb | exact cm_eqD F (by first | rfl | exact shaped_cp _ | exact shaped_lt _) (by first | rfl | exact shaped_cp _))) (fun hb11 => (de_g F (g_PRESENT T))) fun hb11 => (DE.is (de_tup xa_nil) (show _ = cpD none from rfl))) (show _ = cpD (some (1, 1, 1, 1)) from rfl) | exact DE.is (de_if (dt_cmp (de_ixT F (de_v 2 h2) de_int) (de_g F (g_PUT T)) (by first | exact cm_eqs | exact cm_eqi | exact cm_eqb | exact cm_eqD F (by first | rfl | exact shaped_cp _ | exact shaped_lt _) (by first | rfl | exact shaped_cp _))) (fun hb12 => (de_g F (g_PRESENT T))) fun hb12 => (DE.is (de_tup xa_nil) (show _ = cpD none from rfl))) (show _ = cpD none from rfl)) xa_nil)) ⟨_, _, rfl, by first | trivial | assumption | omega | decide | simp_all, rfl⟩) hq (by rfl))
                   · try first | exact Bool.noConfusion (show true = false from hb10) | exact absurd hb10 (by decide)
                     all_goals
                       (replace h0 := vx_up (up_of e10) h0
                        replace h1 := dp_up (up_of e10) _ _ h1
                        replace h2 := dp_up (up_of e10) _ _ h2
                        replace h3 := dp_up (up_of e10) _ _ h3
                        replace h4 := dp_up (up_of e10) _ _ h4
                        replace h5 := dp_up (up_of e10) _ _ h5
                        replace h6 := dp_up (up_of e10) _ _ h6
                        replace h7 := dp_up (up_of e10) _ _ h7
                        replace h8 := dp_up (up_of e10) _ _ h8
                        replace h9 := dp_up (up_of e10) _ _ h9
                        replace h10 := dp_up (up_of e10) _ _ h10
                        replace h11 := dp_up (up_of e10) _ _ h11
                        replace hq := hq.up e10
                        exact ds_ret (de_if (dt_cmp (de_v 3 h3) (de_g F (g_ABSENT T)) (by first | exact cm_eqs | exact cm_eqi | exact cm_eqb | exact cm_eqD F (by first | rfl | exact shaped_cp _ | exact shaped_lt _) (by first | rfl | exact shaped_cp _))) (fun hb13 => (de_f F (f_seen_now T) (xa_d (de_v 4 h4) (xa_d (DE.is (de_tup xa_nil) (show _ = cpD none from rfl)) xa_nil)) ⟨_, _, rfl, by first | trivial | assumption | omega | decide | simp_all, rfl⟩)) fun hb13 => (de_v 4 h4)) hq (by rfl))))
         · try first | exact Bool.noConfusion (show true = false from hb5) | exact absurd hb5 (by decide)
           all_goals
             (replace h0 := vx_up (up_of e5) h0
              replace h1 := dp_up (up_of e5) _ _ h1
              replace h2 := dp_up (up_of e5) _ _ h2
              replace h3 := dp_up (up_of e5) _ _ h3
              replace h5 := dp_up (up_of e5) _ _ h5
              replace h6 := dp_up (up_of e5) _ _ h6
              replace h7 := dp_up (up_of e5) _ _ h7
              replace h8 := dp_up (up_of e5) _ _ h8
              replace h9 := dp_up (up_of e5) _ _ h9
              replace h10 := dp_up (up_of e5) _ _ h10
              replace h11 := dp_up (up_of e5) _ _ h11
              replace hq := hq.up e5
              refine ds_set (F := F) 4 (de_f F (f_at_step T) (xa_d (de_v 1 h1) (xa_d (de_f F (f_next_behind T) (xa_d (de_v 2 h2) (xa_d (de_v 3 h3) xa_nil)) ⟨_, _, rfl, by simp [AnsOk], rfl⟩) xa_nil)) ⟨_, _, rfl, by first | trivial | assumption | omega | decide | simp_all, rfl⟩) fun v4_ H14 e14 h4 => ?_
              replace h0 := vx_up (up_of e14) h0
              replace h1 := dp_up (up_of e14) _ _ h1
              replace h2 := dp_up (up_of e14) _ _ h2
              replace h3 := dp_up (up_of e14) _ _ h3
              replace h5 := dp_up (up_of e14) _ _ h5
              replace h6 := dp_up (up_of e14) _ _ h6
              replace h7 := dp_up (up_of e14) _ _ h7
              replace h8 := dp_up (up_of e14) _ _ h8
              replace h9 := dp_up (up_of e14) _ _ h9
              replace h10 := dp_up (up_of e14) _ _ h10
              replace h11 := dp_up (up_of e14) _ _ h11
              replace hq := hq.up e14
              show DSs _ _ [some v0_, some v1_, some v2_, some v3_, some v4_, some v5_, some v6_, some v7_, some v8_, some v9_, some v10_, some v11_] _ _
              refine ds_if (dt_cmp (de_v 3 h3) (de_tup (xa_d (de_g F (g_GOT T)) (xa_d (de_g F (g_MINE T)) xa_nil))) (by first | exact cm_inS F | exact cm_inS F (by assumption) | exact cm_inD F (by first | rfl | exact shaped_cp _) (by first | rfl | assumption))) (fun hb15 H15 e15 => ?_) (fun hb15 H15 e15 => ?_)
              · try first | exact Bool.noConfusion (show false = true from hb15) | exact absurd hb15 (by decide)
                all_goals
                  (replace h0 := vx_up (up_of e15) h0
                   replace h1 := dp_up (up_of e15) _ _ h1
                   replace h2 := dp_up (up_of e15) _ _ h2
                   replace h3 := dp_up (up_of e15) _ _ h3
                   replace h4 := dp_up (up_of e15) _ _ h4
                   replace h5 := dp_up (up_of e15) _ _ h5
                   replace h6 := dp_up (up_of e15) _ _ h6
                   replace h7 := dp_up (up_of e15) _ _ h7
                   replace h8 := dp_up (up_of e15) _ _ h8
                   replace h9 := dp_up (up_of e15) _ _ h9
                   replace h10 := dp_up (up_of e15) _ _ h10
                   replace h11 := dp_up (up_of e15) _ _ h11
                   replace hq := hq.up e15
                   exact ds_ret (de_f F (f_seen_now T) (xa_d (de_v 4 h4) (xa_d (DE.is (de_if (dt_cmp (de_v 5 h5) de_str (by first | exact cm_eqs | exact cm_eqi | exact cm_eqb | exact cm_eqD F (by first | rfl | exact shaped_cp _ | exact shaped_lt _) (by first | rfl | exact shaped_cp _))) (fun hb16 => (de_g F (g_PRESENT T))) fun hb16 => (de_g F (g_ELDER T))) bif_pe) xa_nil)) ⟨_, _, rfl, by first | trivial | assumption | omega | decide | simp_all, rfl⟩) hq (by rfl))
              · try first | exact Bool.noConfusion (show true = false from hb15) | exact absurd hb15 (by decide)
                all_goals
                  (replace h0 := vx_up (up_of e15) h0
                   replace h1 := dp_up (up_of e15) _ _ h1
                   replace h2 := dp_up (up_of e15) _ _ h2
                   replace h3 := dp_up (up_of e15) _ _ h3
                   replace h4 := dp_up (up_of e15) _ _ h4
                   replace h5 := dp_up (up_of e15) _ _ h5
                   replace h6 := dp_up (up_of e15) _ _ h6
                   replace h7 := dp_up (up_of e15) _ _ h7
                   replace h8 := dp_up (up_of e15) _ _ h8
                   replace h9 := dp_up (up_of e15) _ _ h9
                   replace h10 := dp_up (up_of e15) _ _ h10
                   replace h11 := dp_up (up_of e15) _ _ h11
                   replace hq := hq.up e15
                   refine ds_if (dt_cmp (de_v 3 h3) (de_g F (g_YES T)) (by first | exact cm_eqs | exact cm_eqi | exact cm_eqb | exact cm_eqD F (by first | rfl | exact shaped_cp _ | exact shaped_lt _) (by first | rfl | exact shaped_cp _))) (fun hb17 H17 e17 => ?_) (fun hb17 H17 e17 => ?_)
                   · try first | exact Bool.noConfusion (show false = true from hb17) | exact absurd hb17 (by decide)
                     all_goals
                       (replace h0 := vx_up (up_of e17) h0
                        replace h1 := dp_up (up_of e17) _ _ h1
                        replace h2 := dp_up (up_of e17) _ _ h2
                        replace h3 := dp_up (up_of e17) _ _ h3
                        replace h4 := dp_up (up_of e17) _ _ h4
                        replace h5 := dp_up (up_of e17) _ _ h5
                        replace h6 := dp_up (up_of e17) _ _ h6
                        replace h7 := dp_up (up_of e17) _ _ h7
                        replace h8 := dp_up (up_of e17) _ _ h8
                        replace h9 := dp_up (up_of e17) _ _ h9
                        replace h10 := dp_up (up_of e17) _ _ h10
                        replace h11 := dp_up (up_of e17) _ _ h11
                        replace hq := hq.up e17
                        exact ds_ret (de_f F (f_seen_now T) (xa_d (de_f F (f_acted T) (xa_d (de_v 4 h4) (xa_d (de_f F (f_act_of T) (xa_d (de_v 2 h2) xa_nil) ⟨_, rfl, rfl, rfl⟩) (xa_d de_bl xa_nil))) ⟨_, _, _, rfl, by first | trivial | assumption | omega | decide | simp_all, rfl⟩) (xa_d (by first | exact DE.is (de_if (dt_cmp (de_ixT F (de_v 2 h2) de_int) (de_g F (g_PUT T)) (by first | exact cm_eqs | exact cm_eqi | exact cm_eqb | exact cm_eqD F (by first | rfl | exact shaped_cp _ | exact shaped_lt _) (by first | rfl | exact shaped_cp _))) (fun hb18 => (de_g F (g_PRESENT T))) fun hb18 => (DE.is (de_tup xa_nil) (show _ = cpD none from rfl))) (show _ = cpD (some (1, 1, 1, 1)) from rfl) | exact DE.is (de_if (dt_cmp (de_ixT F (de_v 2 h2) de_int) (de_g F (g_PUT T)) (by first | exact cm_eqs | exact cm_eqi | exact cm_eqb | exact cm_eqD F (by first | rfl | exact shaped_cp _ | exact shaped_lt _) (by first | rfl | exact shaped_cp _))) (fun hb19 => (de_g F (g_PRESENT T))) fun hb19 => (DE.is (de_tup xa_nil) (show _ = cpD none from rfl))) (show _ = cpD none from rfl)) xa_nil)) ⟨_, _, rfl, by first | trivial | assumption | omega | decide | simp_all, rfl⟩) hq (by rfl))
                   · try first | exact Bool.noConfusion (show true = false from hb17) | exact absurd hb17 (by decide)
                     all_goals
                       (replace h0 := vx_up (up_of e17) h0
                        replace h1 := dp_up (up_of e17) _ _ h1
                        replace h2 := dp_up (up_of e17) _ _ h2
                        replace h3 := dp_up (up_of e17) _ _ h3
                        replace h4 := dp_up (up_of e17) _ _ h4
                        replace h5 := dp_up (up_of e17) _ _ h5
                        replace h6 := dp_up (up_of e17) _ _ h6
                        replace h7 := dp_up (up_of e17) _ _ h7
                        replace h8 := dp_up (up_of e17) _ _ h8
                        replace h9 := dp_up (up_of e17) _ _ h9
                        replace h10 := dp_up (up_of e17) _ _ h10
                        replace h11 := dp_up (up_of e17) _ _ h11
                        replace hq := hq.up e17
                        exact ds_ret (de_if (dt_cmp (de_v 3 h3) (de_g F (g_ABSENT T)) (by first | exact cm_eqs | exact cm_eqi | exact cm_eqb | exact cm_eqD F (by first | rfl | exact shaped_cp _ | exact shaped_lt _) (by first | rfl | exact shaped_cp _))) (fun hb20 => (de_f F (f_seen_now T) (xa_d (de_v 4 h4) (xa_d (DE.is (de_tup xa_nil) (show _ = cpD none from rfl)) xa_nil)) ⟨_, _, rfl, by first | trivial | assumption | omega | decide | simp_all, rfl⟩)) fun hb20 => (de_v 4 h4)) hq (by rfl))))))
end
end PK
namespace PK
open L2 PySem PySem.Spec PyProof.Rows
theorem comeL_d {b : Bool} {x y : StD} : (bif b then StD.d x else StD.d y) = StD.d (bif b then x else y) := by cases b <;> rfl
def BitOk (m : Int) : Prop := m = 0 ∨ m = 1
def SrvOk (s : Str) : Prop := s = "fresh" ∨ s = "gone" ∨ s = "never" ∨ s = "there"
def LtOk (ss : List PyData) (srv : Str) : Lt → Prop
  | none => True
  | some (n, c, m) => (∃ o, At ss n o ∧ isWr o = true) ∧ NxOk ss.length n ∧ CpOk srv c ∧ BitOk m
structure StaOk (ss : List PyData) (s : StD) : Prop where
  srv : SrvOk s.srv
  num : NxOk ss.length s.num
  cp : CpOk s.srv s.cp
  kn : BitOk s.kn
  ow : BitOk s.ow
  dn : NxOk 3 s.dn
  lt : LtOk ss s.srv s.lt
theorem wr_req {o : Stp} (h : isWr o = true) : isReq o = true := by
  cases o <;> first | rfl | exact Bool.noConfusion (show false = true from h)
theorem lost_ok {o : Stp} (h : isReq o = true) : AnsOk o "lost" := by
  cases o <;> first | (simp [AnsOk]; done) | exact Bool.noConfusion (show false = true from h)
theorem bit_nx {m : Int} (h : BitOk m) : NxOk 2 m := by
  rcases h with rfl | rfl <;> exact ⟨by decide, by decide⟩
theorem nx_dec {m i : Int} (h : NxOk m i) : (decide (0 ≤ i) && decide (i < m)) = true := by
  obtain ⟨h1, h2⟩ := h
  simp [h1, h2]
section
variable {P : Program} {w : World} {K : PySem.W.Frag} {mg : Str → Option Value} {base : Heap} (T : Txt w K mg)
include T
def pre_unheard (xs : List Dx) (r : PyData) : Prop := ∃ (ss : List PyData) (s : StD) (o : Stp) (n : Str), xs = [.scr ss, .d (s.d), .d (.str n)] ∧ (At ss s.num o ∧ isWr o = true) ∧ r = (unheardD o s n).d
theorem f_unheard : FnC P w K mg base 5 "unheard" (Spf K pre_unheard) := by
  refine fnC_pure (N := ["script", "state", "net", "one", "later"]) (ps := ["script", "state", "net"]) (h_unheard T) (m_unheard T) ⟨rfl, rfl, rfl, by decide +kernel, rfl, by decide +kernel, by decide +kernel⟩ (fun _ _ _ _ _ _ us hl => match us, hl with | [_, _, _], _ => rfl) (fun xs r h => by
    obtain ⟨_, _, _, _, rfl, _⟩ := h
    rfl) ?_
  intro Y cdv A outer s_ H vs xs r Q E hY F hv hp hq
  subst hY
  obtain ⟨ss, s, o, n, rfl, hc, rfl⟩ := hp
  obtain ⟨v0_, v1_, v2_, rfl, h0, h1, h2⟩ := vxs3 hv
  show DSs _ _ [some v0_, some v1_, some v2_, _, _] _ _
  refine ds_set (F := F) 3 (de_ixT F (de_steps F (c_Script T) (a_Script T) (xe_v 0 h0)) (de_ixT F (de_v 1 h1) de_int) (hc.1.1)) fun v3_ H1 e1 h3 => ?_
  replace h0 := vx_up (up_of e1) h0
  replace h1 := dp_up (up_of e1) _ _ h1
  replace h2 := dp_up (up_of e1) _ _ h2
  replace hq := hq.up e1
  show DSs _ _ [some v0_, some v1_, some v2_, some v3_, _] _ _
  refine ds_set (F := F) 4 (de_f F (f_at_step T) (xa_d (de_f F (f_acted T) (xa_d (de_v 1 h1) (xa_d (de_f F (f_act_of T) (xa_d (de_v 3 h3) xa_nil) ⟨_, rfl, hc.2, rfl⟩) (xa_d de_bl xa_nil))) ⟨_, _, _, rfl, by first | trivial | assumption | omega | decide | simp_all, rfl⟩) (xa_d (de_f F (f_next_behind T) (xa_d (de_v 3 h3) (xa_d (de_g F (g_LOST T)) xa_nil)) ⟨_, _, rfl, lost_ok (wr_req hc.2), rfl⟩) xa_nil)) ⟨_, _, rfl, by first | trivial | assumption | omega | decide | simp_all, rfl⟩) fun v4_ H2 e2 h4 => ?_
  replace h0 := vx_up (up_of e2) h0
  replace h1 := dp_up (up_of e2) _ _ h1
  replace h2 := dp_up (up_of e2) _ _ h2
  replace h3 := dp_up (up_of e2) _ _ h3
  replace hq := hq.up e2
  show DSs _ _ [some v0_, some v1_, some v2_, some v3_, some v4_] _ _
  exact ds_ret (de_if (dt_cmp (de_v 2 h2) (de_g F (g_AGAIN T)) (by first | exact cm_eqs | exact cm_eqi | exact cm_eqb | exact cm_eqD F (by first | rfl | exact shaped_cp _ | exact shaped_lt _) (by first | rfl | exact shaped_cp _))) (fun hb3 => (de_catT F (de_slT F (de_v 4 h4) oe_none (oe_some (K := K) de_int)) (de_tup (xa_d (de_f F (f_sent_now T) (xa_d (de_v 1 h1) (xa_d (de_ixT F (de_v 4 h4) de_int) xa_nil)) ⟨_, _, rfl, by first | trivial | assumption | omega | decide | simp_all, rfl⟩) xa_nil)))) fun hb3 => (de_v 4 h4)) hq (by (unfold unheardD; generalize decide (n = "again") = b; cases b <;> rfl))
def pre_unsent (xs : List Dx) (r : PyData) : Prop := ∃ (ss : List PyData) (s : StD) (o : Stp) (n : Str), xs = [.scr ss, .d (s.d), .d (.str n)] ∧ (At ss s.num o ∧ isReq o = true) ∧ r = (unsentD o s n).d
theorem f_unsent : FnC P w K mg base 5 "unsent" (Spf K pre_unsent) := by
  refine fnC_pure (N := ["script", "state", "net", "one", "later"]) (ps := ["script", "state", "net"]) (h_unsent T) (m_unsent T) ⟨rfl, rfl, rfl, by decide +kernel, rfl, by decide +kernel, by decide +kernel⟩ (fun _ _ _ _ _ _ us hl => match us, hl with | [_, _, _], _ => rfl) (fun xs r h => by
    obtain ⟨_, _, _, _, rfl, _⟩ := h
    rfl) ?_
  intro Y cdv A outer s_ H vs xs r Q E hY F hv hp hq
  subst hY
  obtain ⟨ss, s, o, n, rfl, hc, rfl⟩ := hp
  obtain ⟨v0_, v1_, v2_, rfl, h0, h1, h2⟩ := vxs3 hv
  show DSs _ _ [some v0_, some v1_, some v2_, _, _] _ _
  (rcases o with ⟨k, a, a1, a2, a3, a4⟩ | ⟨k, z, a, a1, a2⟩ | ⟨k, a, a1, a2, a3⟩ | m | w_ <;> (first | exact Bool.noConfusion (show false = true from hc.2) | skip)) <;> (
    refine ds_set (F := F) 3 (de_ixT F (de_steps F (c_Script T) (a_Script T) (xe_v 0 h0)) (de_ixT F (de_v 1 h1) de_int) (hc.1.1)) fun v3_ H1 e1 h3 => ?_
    replace h0 := vx_up (up_of e1) h0
    replace h1 := dp_up (up_of e1) _ _ h1
    replace h2 := dp_up (up_of e1) _ _ h2
    replace hq := hq.up e1
    show DSs _ _ [some v0_, some v1_, some v2_, some v3_, _] _ _
    refine ds_set (F := F) 4 (de_f F (f_at_step T) (xa_d (de_v 1 h1) (xa_d (de_f F (f_next_behind T) (xa_d (de_v 3 h3) (xa_d (de_g F (g_LOST T)) xa_nil)) ⟨_, _, rfl, lost_ok hc.2, rfl⟩) xa_nil)) ⟨_, _, rfl, by first | trivial | assumption | omega | decide | simp_all, rfl⟩) fun v4_ H2 e2 h4 => ?_
    replace h0 := vx_up (up_of e2) h0
    replace h1 := dp_up (up_of e2) _ _ h1
    replace h2 := dp_up (up_of e2) _ _ h2
    replace h3 := dp_up (up_of e2) _ _ h3
    replace hq := hq.up e2
    show DSs _ _ [some v0_, some v1_, some v2_, some v3_, some v4_] _ _
    refine ds_if (dt_w (dw_or (dt_cmp (de_v 2 h2) (de_g F (g_LOST T)) (by first | exact cm_eqs | exact cm_eqi | exact cm_eqb | exact cm_eqD F (by first | rfl | exact shaped_cp _ | exact shaped_lt _) (by first | rfl | exact shaped_cp _))) fun hb4 => (dw_one_or (dt_cmp (de_ixT F (de_v 3 h3) de_int) (de_g F (g_READ T)) (by first | exact cm_eqs | exact cm_eqi | exact cm_eqb | exact cm_eqD F (by first | rfl | exact shaped_cp _ | exact shaped_lt _) (by first | rfl | exact shaped_cp _)))))) (fun hb3 H3 e3 => ?_) (fun hb3 H3 e3 => ?_)
    · try first | exact Bool.noConfusion (show false = true from hb3) | exact absurd hb3 (by decide)
      all_goals
        (replace h0 := vx_up (up_of e3) h0
         replace h1 := dp_up (up_of e3) _ _ h1
         replace h2 := dp_up (up_of e3) _ _ h2
         replace h3 := dp_up (up_of e3) _ _ h3
         replace h4 := dp_up (up_of e3) _ _ h4
         replace hq := hq.up e3
         exact ds_ret (de_v 4 h4) hq (by (unfold unsentD; generalize hz : decide (n = "lost") = b at *; cases b <;> first | rfl | (exfalso; simp_all (config := { decide := true }); done))))
    · try first | exact Bool.noConfusion (show true = false from hb3) | exact absurd hb3 (by decide)
      all_goals
        (replace h0 := vx_up (up_of e3) h0
         replace h1 := dp_up (up_of e3) _ _ h1
         replace h2 := dp_up (up_of e3) _ _ h2
         replace h3 := dp_up (up_of e3) _ _ h3
         replace h4 := dp_up (up_of e3) _ _ h4
         replace hq := hq.up e3
         exact ds_ret (de_catT F (de_slT F (de_v 4 h4) oe_none (oe_some (K := K) de_int)) (de_tup (xa_d (de_f F (f_sent_now T) (xa_d (de_v 1 h1) (xa_d (de_ixT F (de_v 1 h1) de_int) xa_nil)) ⟨_, _, rfl, by first | trivial | assumption | omega | decide | simp_all, rfl⟩) xa_nil))) hq (by (unfold unsentD; generalize hz : decide (n = "lost") = b at *; cases b <;> first | rfl | (exfalso; simp_all (config := { decide := true }); done)))))
def pre_come (xs : List Dx) (r : PyData) : Prop := ∃ (ss : List PyData) (s : StD) (o : Stp) (j : Int) (c : Cp) (m : Int) (n : Str), xs = [.scr ss, .d (s.d), .d (.str n)] ∧ (At ss j o ∧ isWr o = true ∧ s.lt = some (j, c, m)) ∧ r = (comeD o s c n).d
theorem f_come : FnC P w K mg base 6 "come" (Spf K pre_come) := by
  refine fnC_pure (N := ["script", "state", "net", "later", "one", "copy"]) (ps := ["script", "state", "net"]) (h_come T) (m_come T) ⟨rfl, rfl, rfl, by decide +kernel, rfl, by decide +kernel, by decide +kernel⟩ (fun _ _ _ _ _ _ us hl => match us, hl with | [_, _, _], _ => rfl) (fun xs r h => by
    obtain ⟨_, _, _, _, _, _, _, rfl, _⟩ := h
    rfl) ?_
  intro Y cdv A outer s_ H vs xs r Q E hY F hv hp hq
  subst hY
  obtain ⟨ss, s, o, j, c, m, n, rfl, hc, rfl⟩ := hp
  obtain ⟨v0_, v1_, v2_, rfl, h0, h1, h2⟩ := vxs3 hv
  obtain ⟨hat, hw, hl⟩ := hc
  obtain ⟨srv, num, cp, kn, ow, dn, lt⟩ := s
  cases hl
  show DSs _ _ [some v0_, some v1_, some v2_, _, _, _] _ _
  refine ds_par (jx := 4) (jy := 5) F (DE.toX (de_ixT F (de_steps F (c_Script T) (a_Script T) (xe_v 0 h0)) (de_ixT F (de_ixT F (de_v 1 h1) de_int) de_int) (hat.1))) (DE.toX (de_ixT F (de_ixT F (de_v 1 h1) de_int) de_int)) fun v4_ v5_ H1 e1 h4 h5 => ?_
  replace h0 := vx_up (up_of e1) h0
  replace h1 := dp_up (up_of e1) _ _ h1
  replace h2 := dp_up (up_of e1) _ _ h2
  replace hq := hq.up e1
  show DSs _ _ [some v0_, some v1_, some v2_, _, some v4_, some v5_] _ _
  refine ds_set (F := F) 3 (DE.is (de_if (dt_e (de_f F (f_is_done_by T) (xa_d (de_v 4 h4) (xa_d (de_ixT F (de_v 1 h1) de_int) (xa_d (de_v 5 h5) xa_nil))) ⟨_, _, _, rfl, hat.2, rfl⟩)) (fun hb3 => (de_f F (f_acted T) (xa_d (de_v 1 h1) (xa_d (de_f F (f_act_of T) (xa_d (de_v 4 h4) xa_nil) ⟨_, rfl, hw, rfl⟩) (xa_d de_bl xa_nil))) ⟨_, _, _, rfl, by first | trivial | assumption | omega | decide | simp_all, rfl⟩)) fun hb3 => (de_v 1 h1)) (show _ = (comeL o ⟨srv, num, cp, kn, ow, dn, some (j, c, m)⟩ c).d from comeL_d)) fun v3_ H2 e2 h3 => ?_
  replace h0 := vx_up (up_of e2) h0
  replace h1 := dp_up (up_of e2) _ _ h1
  replace h2 := dp_up (up_of e2) _ _ h2
  replace h4 := dp_up (up_of e2) _ _ h4
  replace h5 := dp_up (up_of e2) _ _ h5
  replace hq := hq.up e2
  show DSs _ _ [some v0_, some v1_, some v2_, some v3_, some v4_, some v5_] _ _
  exact ds_ret (de_if (dt_cmp (de_v 2 h2) (de_g F (g_AGAIN T)) (by first | exact cm_eqs | exact cm_eqi | exact cm_eqb | exact cm_eqD F (by first | rfl | exact shaped_cp _ | exact shaped_lt _) (by first | rfl | exact shaped_cp _))) (fun hb4 => (de_v 3 h3)) fun hb4 => (de_catT F (de_slT F (de_v 3 h3) oe_none (oe_some (K := K) de_int)) (de_tup (xa_d (de_tup xa_nil) xa_nil)))) hq (by (unfold comeD; generalize decide (n = "again") = b; cases b <;> rfl))
end
end PK
namespace PK
open L2 PySem PySem.Spec PyProof.Rows
def lateC (s : StD) : Cp := match s.lt with
  | some (_, c, _) => c
  | none => none
def steppedD (o o2 : Stp) (s : StD) (e n : Str) : StD :=
  if e = "tick" then ticked s else if e = "answered" then answeredD o s else if e = "unheard" then unheardD o s n else if e = "unsent" then unsentD o s n else if e = "come" then comeD o2 s (lateC s) n else acted s e false
def LateAt (ss : List PyData) (s : StD) (o2 : Stp) : Prop := ∀ j c m, s.lt = some (j, c, m) → At ss j o2 ∧ isWr o2 = true
structure Can (ss : List PyData) (s : StD) (o o2 : Stp) (e : Str) : Prop where
  ev : EvOk e
  at1 : At ss s.num o
  at2 : LateAt ss s o2
  an : e = "answered" → endB o = false
  uh : e = "unheard" → isWr o = true
  us : e = "unsent" → isReq o = true
  co : e = "come" → s.lt.isSome = true
def OthOk (ot : List Str) : Prop := ot = ([] : List Str) ∨ ot = (["great"] : List Str) ∨ ot = (["small"] : List Str) ∨ ot = (["take"] : List Str) ∨ ot = (["great", "small"] : List Str) ∨ ot = (["great", "take"] : List Str) ∨ ot = (["small", "take"] : List Str) ∨ ot = (["great", "small", "take"] : List Str)
theorem asc_at {ot : List Str} (hc : OthOk ot) : ∀ i, i < min (ot.map PyData.str).length (cutD (ot.map PyData.str) (some 1) none).length →
    ∃ x y, (ot.map PyData.str).getD i .none = .str x ∧ (cutD (ot.map PyData.str) (some 1) none).getD i .none = .str y ∧ decide (x.cps.toList < y.cps.toList) = true := by
  rcases hc with rfl | rfl | rfl | rfl | rfl | rfl | rfl | rfl <;> intro i hi <;> rcases i with _ | _ | i <;> first
    | exact ⟨_, _, rfl, rfl, by decide⟩
    | exact absurd hi (by decide)
    | (have h2 : i + 1 + 1 < 2 := Nat.lt_of_lt_of_le hi (by decide)
       omega)
section
variable {P : Program} {w : World} {K : PySem.W.Frag} {mg : Str → Option Value} {base : Heap} (T : Txt w K mg)
include T
def pre_stepped (xs : List Dx) (r : PyData) : Prop := ∃ (ss : List PyData) (s : StD) (o : Stp) (o2 : Stp) (e : Str) (n : Str), xs = [.scr ss, .d (s.d), .d (.str e), .d (.str n)] ∧ (Can ss s o o2 e) ∧ r = (steppedD o o2 s e n).d
theorem f_stepped : FnC P w K mg base 7 "stepped" (Spf K pre_stepped) := by
  refine fnC_pure (N := ["script", "state", "event", "net"]) (ps := ["script", "state", "event", "net"]) (h_stepped T) (m_stepped T) ⟨rfl, rfl, rfl, by decide +kernel, rfl, by decide +kernel, by decide +kernel⟩ (fun _ _ _ _ _ _ us hl => match us, hl with | [_, _, _, _], _ => rfl) (fun xs r h => by
    obtain ⟨_, _, _, _, _, _, rfl, _⟩ := h
    rfl) ?_
  intro Y cdv A outer s_ H vs xs r Q E hY F hv hp hq
  subst hY
  obtain ⟨ss, s, o, o2, e, n, rfl, hc, rfl⟩ := hp
  obtain ⟨v0_, v1_, v2_, v3_, rfl, h0, h1, h2, h3⟩ := vxs4 hv
  show DSs _ _ [some v0_, some v1_, some v2_, some v3_] _ _
  (have hE := hc.ev; rcases hE with rfl | rfl | rfl | rfl | rfl | rfl | rfl | rfl; rotate_left 7; rcases hl : s.lt with _ | ⟨j, c, m⟩; exact Bool.noConfusion (show false = true from (congrArg Option.isSome hl).symm.trans (hc.co rfl))) <;> (
    refine ds_if (dt_cmp (de_v 2 h2) (de_g F (g_WRITINGS T)) (by first | exact cm_inS F | exact cm_inS F (by assumption) | exact cm_inD F (by first | rfl | exact shaped_cp _) (by first | rfl | assumption))) (fun hb1 H1 e1 => ?_) (fun hb1 H1 e1 => ?_)
    · try first | exact Bool.noConfusion (show false = true from hb1) | exact absurd hb1 (by decide)
      all_goals
        (replace h0 := vx_up (up_of e1) h0
         replace h1 := dp_up (up_of e1) _ _ h1
         replace h2 := dp_up (up_of e1) _ _ h2
         replace h3 := dp_up (up_of e1) _ _ h3
         replace hq := hq.up e1
         exact ds_ret (de_f F (f_acted T) (xa_d (de_v 1 h1) (xa_d (de_v 2 h2) (xa_d de_bl xa_nil))) ⟨_, _, _, rfl, by first | trivial | assumption | omega | decide | simp_all, rfl⟩) hq (by first | rfl | (simp only [steppedD, lateC, hl]; rfl)))
    · try first | exact Bool.noConfusion (show true = false from hb1) | exact absurd hb1 (by decide)
      all_goals
        (replace h0 := vx_up (up_of e1) h0
         replace h1 := dp_up (up_of e1) _ _ h1
         replace h2 := dp_up (up_of e1) _ _ h2
         replace h3 := dp_up (up_of e1) _ _ h3
         replace hq := hq.up e1
         refine ds_if (dt_cmp (de_v 2 h2) (de_g F (g_TICK T)) (by first | exact cm_eqs | exact cm_eqi | exact cm_eqb | exact cm_eqD F (by first | rfl | exact shaped_cp _ | exact shaped_lt _) (by first | rfl | exact shaped_cp _))) (fun hb2 H2 e2 => ?_) (fun hb2 H2 e2 => ?_)
         · try first | exact Bool.noConfusion (show false = true from hb2) | exact absurd hb2 (by decide)
           all_goals
             (replace h0 := vx_up (up_of e2) h0
              replace h1 := dp_up (up_of e2) _ _ h1
              replace h2 := dp_up (up_of e2) _ _ h2
              replace h3 := dp_up (up_of e2) _ _ h3
              replace hq := hq.up e2
              exact ds_ret (de_f F (f_ticked T) (xa_d (de_v 1 h1) xa_nil) ⟨_, rfl, by first | trivial | assumption | omega | decide | simp_all, rfl⟩) hq (by first | rfl | (simp only [steppedD, lateC, hl]; rfl)))
         · try first | exact Bool.noConfusion (show true = false from hb2) | exact absurd hb2 (by decide)
           all_goals
             (replace h0 := vx_up (up_of e2) h0
              replace h1 := dp_up (up_of e2) _ _ h1
              replace h2 := dp_up (up_of e2) _ _ h2
              replace h3 := dp_up (up_of e2) _ _ h3
              replace hq := hq.up e2
              refine ds_if (dt_cmp (de_v 2 h2) (de_g F (g_ANSWERED T)) (by first | exact cm_eqs | exact cm_eqi | exact cm_eqb | exact cm_eqD F (by first | rfl | exact shaped_cp _ | exact shaped_lt _) (by first | rfl | exact shaped_cp _))) (fun hb3 H3 e3 => ?_) (fun hb3 H3 e3 => ?_)
              · try first | exact Bool.noConfusion (show false = true from hb3) | exact absurd hb3 (by decide)
                all_goals
                  (replace h0 := vx_up (up_of e3) h0
                   replace h1 := dp_up (up_of e3) _ _ h1
                   replace h2 := dp_up (up_of e3) _ _ h2
                   replace h3 := dp_up (up_of e3) _ _ h3
                   replace hq := hq.up e3
                   exact ds_ret (de_f F (f_answered T) (xa_x (xe_v 0 h0) (xa_d (de_v 1 h1) xa_nil)) ⟨_, _, _, rfl, ⟨hc.at1, hc.an rfl⟩, rfl⟩) hq (by first | rfl | (simp only [steppedD, lateC, hl]; rfl)))
              · try first | exact Bool.noConfusion (show true = false from hb3) | exact absurd hb3 (by decide)
                all_goals
                  (replace h0 := vx_up (up_of e3) h0
                   replace h1 := dp_up (up_of e3) _ _ h1
                   replace h2 := dp_up (up_of e3) _ _ h2
                   replace h3 := dp_up (up_of e3) _ _ h3
                   replace hq := hq.up e3
                   refine ds_if (dt_cmp (de_v 2 h2) (de_g F (g_UNHEARD T)) (by first | exact cm_eqs | exact cm_eqi | exact cm_eqb | exact cm_eqD F (by first | rfl | exact shaped_cp _ | exact shaped_lt _) (by first | rfl | exact shaped_cp _))) (fun hb4 H4 e4 => ?_) (fun hb4 H4 e4 => ?_)
                   · try first | exact Bool.noConfusion (show false = true from hb4) | exact absurd hb4 (by decide)
                     all_goals
                       (replace h0 := vx_up (up_of e4) h0
                        replace h1 := dp_up (up_of e4) _ _ h1
                        replace h2 := dp_up (up_of e4) _ _ h2
                        replace h3 := dp_up (up_of e4) _ _ h3
                        replace hq := hq.up e4
                        exact ds_ret (de_f F (f_unheard T) (xa_x (xe_v 0 h0) (xa_d (de_v 1 h1) (xa_d (de_v 3 h3) xa_nil))) ⟨_, _, _, _, rfl, ⟨hc.at1, hc.uh rfl⟩, rfl⟩) hq (by first | rfl | (simp only [steppedD, lateC, hl]; rfl)))
                   · try first | exact Bool.noConfusion (show true = false from hb4) | exact absurd hb4 (by decide)
                     all_goals
                       (replace h0 := vx_up (up_of e4) h0
                        replace h1 := dp_up (up_of e4) _ _ h1
                        replace h2 := dp_up (up_of e4) _ _ h2
                        replace h3 := dp_up (up_of e4) _ _ h3
                        replace hq := hq.up e4
                        exact ds_ret (de_if (dt_cmp (de_v 2 h2) (de_g F (g_UNSENT T)) (by first | exact cm_eqs | exact cm_eqi | exact cm_eqb | exact cm_eqD F (by first | rfl | exact shaped_cp _ | exact shaped_lt _) (by first | rfl | exact shaped_cp _))) (fun hb5 => (by first | exact (de_f F (f_unsent T) (xa_x (xe_v 0 h0) (xa_d (de_v 1 h1) (xa_d (de_v 3 h3) xa_nil))) ⟨_, _, _, _, rfl, ⟨hc.at1, hc.us rfl⟩, rfl⟩) | exact (show DE _ _ _ _ _ (.tuple []) from (by first | exact Bool.noConfusion (show true = false from hb5) | exact Bool.noConfusion (show false = true from hb5))))) fun hb5 => (by first | exact (de_f F (f_come T) (xa_x (xe_v 0 h0) (xa_d (de_v 1 h1) (xa_d (de_v 3 h3) xa_nil))) ⟨_, _, _, _, _, _, _, rfl, ⟨(hc.at2 j c m hl).1, (hc.at2 j c m hl).2, hl⟩, rfl⟩) | exact (show DE _ _ _ _ _ (.tuple []) from (by first | exact Bool.noConfusion (show true = false from hb5) | exact Bool.noConfusion (show false = true from hb5))))) hq (by first | rfl | (simp only [steppedD, lateC, hl]; rfl)))))))
def pre_is_late (xs : List Dx) (r : PyData) : Prop := ∃ (ss : List PyData) (v : Str) (l : Lt), xs = [.scr ss, .d (.str v), .d (ltD l)] ∧ (LtOk ss v l) ∧ r = .bool true
theorem f_is_late : FnC P w K mg base 4 "is_late" (Spf K pre_is_late) := by
  refine fnC_pure (N := ["script", "server", "value"]) (ps := ["script", "server", "value"]) (h_is_late T) (m_is_late T) ⟨rfl, rfl, rfl, by decide +kernel, rfl, by decide +kernel, by decide +kernel⟩ (fun _ _ _ _ _ _ us hl => match us, hl with | [_, _, _], _ => rfl) (fun xs r h => by
    obtain ⟨_, _, _, rfl, _⟩ := h
    rfl) ?_
  intro Y cdv A outer s_ H vs xs r Q E hY F hv hp hq
  subst hY
  obtain ⟨ss, v, l, rfl, hc, rfl⟩ := hp
  obtain ⟨v0_, v1_, v2_, rfl, h0, h1, h2⟩ := vxs3 hv
  show DSs _ _ [some v0_, some v1_, some v2_] _ _
  (rcases l with _ | ⟨j, c, m⟩; rotate_left; obtain ⟨⟨o, hat, hw⟩, hj, hcp, hm⟩ := hc; rcases o with ⟨k, a, a1, a2, a3, a4⟩ | ⟨k, z, a, a1, a2⟩ | ⟨k, a, a1, a2, a3⟩ | m' | w_; exact Bool.noConfusion (show false = true from hw); rotate_left 2; exact Bool.noConfusion (show false = true from hw); exact Bool.noConfusion (show false = true from hw)) <;> (
    refine ds_guard (DT.is (dt_not (dt_e (de_isi .tuple F (n_isinstance T) (n_tuple T) (de_v 2 h2)))) (by first | rfl | decide | simp_all)) fun H1 e1 => ?_
    replace h0 := vx_up (up_of e1) h0
    replace h1 := dp_up (up_of e1) _ _ h1
    replace h2 := dp_up (up_of e1) _ _ h2
    replace hq := hq.up e1
    refine ds_if (dt_cmp (de_v 2 h2) (de_tup xa_nil) (by first | exact cm_eqs | exact cm_eqi | exact cm_eqb | exact cm_eqD F (by first | rfl | exact shaped_cp _ | exact shaped_lt _) (by first | rfl | exact shaped_cp _))) (fun hb2 H2 e2 => ?_) (fun hb2 H2 e2 => ?_)
    · try first | exact Bool.noConfusion (show false = true from hb2) | exact absurd hb2 (by decide)
      all_goals
        (replace h0 := vx_up (up_of e2) h0
         replace h1 := dp_up (up_of e2) _ _ h1
         replace h2 := dp_up (up_of e2) _ _ h2
         replace hq := hq.up e2
         exact ds_ret de_bl hq (by rfl))
    · try first | exact Bool.noConfusion (show true = false from hb2) | exact absurd hb2 (by decide)
      all_goals
        (replace h0 := vx_up (up_of e2) h0
         replace h1 := dp_up (up_of e2) _ _ h1
         replace h2 := dp_up (up_of e2) _ _ h2
         replace hq := hq.up e2
         refine ds_guard (DT.is (dt_w (dw_or (dt_cmp (de_len F (n_len T) (de_v 2 h2) (by first | exact .inl rfl | exact .inr rfl)) de_int (by first | exact cm_nes | exact cm_nei | exact cm_neD F (by first | rfl | exact shaped_cp _ | exact shaped_lt _) (by first | rfl | exact shaped_cp _))) fun hb5 => (dw_or (dt_not (dt_e (de_f F (f_is_number T) (xa_d (de_ixT F (de_v 2 h2) de_int) (xa_d (de_len F (n_len T) (de_steps F (c_Script T) (a_Script T) (xe_v 0 h0)) (by first | exact .inl rfl | exact .inr rfl)) xa_nil)) ⟨_, _, rfl, by first | trivial | assumption | omega | decide | simp_all, rfl⟩))) fun hb4 => (dw_one_or (dt_not (dt_e (de_f F (f_is_number T) (xa_d (de_ixT F (de_v 2 h2) de_int) (xa_d de_int xa_nil)) ⟨_, _, rfl, by first | trivial | assumption | omega | decide | simp_all, rfl⟩))))))) (by rw [nx_dec hj, nx_dec (bit_nx hm)] <;> rfl)) fun H3 e3 => ?_
         replace h0 := vx_up (up_of e3) h0
         replace h1 := dp_up (up_of e3) _ _ h1
         replace h2 := dp_up (up_of e3) _ _ h2
         replace hq := hq.up e3
         exact ds_ret (de_and (de_cmp (de_ixT F (de_ixT F (de_steps F (c_Script T) (a_Script T) (xe_v 0 h0)) (de_ixT F (de_v 2 h2) de_int) (hat.1)) de_int) (de_tup (xa_d (de_g F (g_PUT T)) (xa_d (de_g F (g_TAKE T)) xa_nil))) (by first | exact cm_inS F | exact cm_inS F (by assumption) | exact cm_inD F (by first | rfl | exact shaped_cp _) (by first | rfl | assumption))) fun hb6 => (de_one (de_f F (f_is_copy T) (xa_d (de_v 1 h1) (xa_d (de_ixT F (de_v 2 h2) de_int) xa_nil)) ⟨_, _, rfl, hcp, rfl⟩))) hq (by rfl)))
def pre_is_state (xs : List Dx) (r : PyData) : Prop := ∃ (ss : List PyData) (s : StD), xs = [.scr ss, .d (s.d)] ∧ (StaOk ss s) ∧ r = .bool true
theorem f_is_state : FnC P w K mg base 5 "is_state" (Spf K pre_is_state) := by
  refine fnC_pure (N := ["script", "value"]) (ps := ["script", "value"]) (h_is_state T) (m_is_state T) ⟨rfl, rfl, rfl, by decide +kernel, rfl, by decide +kernel, by decide +kernel⟩ (fun _ _ _ _ _ _ us hl => match us, hl with | [_, _], _ => rfl) (fun xs r h => by
    obtain ⟨_, _, rfl, _⟩ := h
    rfl) ?_
  intro Y cdv A outer s_ H vs xs r Q E hY F hv hp hq
  subst hY
  obtain ⟨ss, s, rfl, hc, rfl⟩ := hp
  obtain ⟨v0_, v1_, rfl, h0, h1⟩ := vxs2 hv
  show DSs _ _ [some v0_, some v1_] _ _
  refine ds_guard (DT.is (dt_w (dw_or (dt_not (dt_e (de_isi .tuple F (n_isinstance T) (n_tuple T) (de_v 1 h1)))) fun hb3 => (dw_or (dt_cmp (de_len F (n_len T) (de_v 1 h1) (by first | exact .inl rfl | exact .inr rfl)) de_int (by first | exact cm_nes | exact cm_nei | exact cm_neD F (by first | rfl | exact shaped_cp _ | exact shaped_lt _) (by first | rfl | exact shaped_cp _))) fun hb2 => (dw_one_or (dt_not (dt_e (de_f F (f_is_one_of T) (xa_d (de_ixT F (de_v 1 h1) de_int) (xa_d (de_g F (g_SERVERS T)) xa_nil)) ⟨_, _, rfl, rfl, rfl⟩))))))) (by rcases hc.srv with h | h | h | h <;> rw [h] <;> rfl)) fun H1 e1 => ?_
  replace h0 := vx_up (up_of e1) h0
  replace h1 := dp_up (up_of e1) _ _ h1
  replace hq := hq.up e1
  refine ds_guard (DT.is (dt_w (dw_or (dt_not (dt_e (de_f F (f_is_number T) (xa_d (de_ixT F (de_v 1 h1) de_int) (xa_d (de_len F (n_len T) (de_steps F (c_Script T) (a_Script T) (xe_v 0 h0)) (by first | exact .inl rfl | exact .inr rfl)) xa_nil)) ⟨_, _, rfl, by first | trivial | assumption | omega | decide | simp_all, rfl⟩))) fun hb5 => (dw_one_or (dt_not (dt_e (de_f F (f_is_copy T) (xa_d (de_ixT F (de_v 1 h1) de_int) (xa_d (de_ixT F (de_v 1 h1) de_int) xa_nil)) ⟨_, _, rfl, hc.cp, rfl⟩)))))) (by rw [nx_dec hc.num] <;> rfl)) fun H4 e4 => ?_
  replace h0 := vx_up (up_of e4) h0
  replace h1 := dp_up (up_of e4) _ _ h1
  replace hq := hq.up e4
  refine ds_guard (DT.is (dt_w (dw_or (dt_not (dt_e (de_f F (f_is_number T) (xa_d (de_ixT F (de_v 1 h1) de_int) (xa_d de_int xa_nil)) ⟨_, _, rfl, by first | trivial | assumption | omega | decide | simp_all, rfl⟩))) fun hb8 => (dw_or (dt_not (dt_e (de_f F (f_is_number T) (xa_d (de_ixT F (de_v 1 h1) de_int) (xa_d de_int xa_nil)) ⟨_, _, rfl, by first | trivial | assumption | omega | decide | simp_all, rfl⟩))) fun hb7 => (dw_one_or (dt_not (dt_e (de_f F (f_is_number T) (xa_d (de_ixT F (de_v 1 h1) de_int) (xa_d (de_add (de_g F (g_MOST_DONE T)) de_int) xa_nil)) ⟨_, _, rfl, by first | trivial | assumption | omega | decide | simp_all, rfl⟩))))))) (by rw [nx_dec (bit_nx hc.kn), nx_dec (bit_nx hc.ow), nx_dec (show NxOk (2 + 1) _ from hc.dn)] <;> rfl)) fun H6 e6 => ?_
  replace h0 := vx_up (up_of e6) h0
  replace h1 := dp_up (up_of e6) _ _ h1
  replace hq := hq.up e6
  exact ds_ret (de_f F (f_is_late T) (xa_x (xe_v 0 h0) (xa_d (de_ixT F (de_v 1 h1) de_int) (xa_d (de_ixT F (de_v 1 h1) de_int) xa_nil))) ⟨_, _, _, rfl, hc.lt, rfl⟩) hq (by first | rfl | (simp_all [bif_str]; done))
def pre_need_state (xs : List Dx) (r : PyData) : Prop := ∃ (ss : List PyData) (s : StD), xs = [.scr ss, .d (s.d)] ∧ (StaOk ss s) ∧ r = .none
theorem f_need_state : FnC P w K mg base 6 "need_state" (Spf K pre_need_state) := by
  refine fnC_pure (N := ["script", "value"]) (ps := ["script", "value"]) (h_need_state T) (m_need_state T) ⟨rfl, rfl, rfl, by decide +kernel, rfl, by decide +kernel, by decide +kernel⟩ (fun _ _ _ _ _ _ us hl => match us, hl with | [_, _], _ => rfl) (fun xs r h => by
    obtain ⟨_, _, rfl, _⟩ := h
    rfl) ?_
  intro Y cdv A outer s_ H vs xs r Q E hY F hv hp hq
  subst hY
  obtain ⟨ss, s, rfl, hc, rfl⟩ := hp
  obtain ⟨v0_, v1_, rfl, h0, h1⟩ := vxs2 hv
  show DSs _ _ [some v0_, some v1_] _ _
  refine ds_guard (DT.is (dt_not (dt_e (de_f F (f_is_state T) (xa_x (xe_v 0 h0) (xa_d (de_v 1 h1) xa_nil)) ⟨_, _, rfl, hc, rfl⟩))) (by first | rfl | decide | simp_all)) fun H1 e1 => ?_
  replace h0 := vx_up (up_of e1) h0
  replace h1 := dp_up (up_of e1) _ _ h1
  replace hq := hq.up e1
  exact ds_nil (hq _ _ (Same.refl _) .non)
def pre_need_others (xs : List Dx) (r : PyData) : Prop := ∃ (ot : List Str), xs = [.d (.tuple (ot.map .str))] ∧ (OthOk ot) ∧ r = .none
theorem f_need_others : FnC P w K mg base 3 "need_others" (Spf K pre_need_others) := by
  refine fnC_pure (N := ["value", "act", "one", "other"]) (ps := ["value"]) (h_need_others T) (m_need_others T) ⟨rfl, rfl, rfl, by decide +kernel, rfl, by decide +kernel, by decide +kernel⟩ (fun _ _ _ _ _ _ us hl => match us, hl with | [_], _ => rfl) (fun xs r h => by
    obtain ⟨_, rfl, _⟩ := h
    rfl) ?_
  intro Y cdv A outer s_ H vs xs r Q E hY F hv hp hq
  subst hY
  obtain ⟨ot, rfl, hc, rfl⟩ := hp
  obtain ⟨v0_, rfl, h0⟩ := vxs1 hv
  show DSs _ _ [some v0_, _, _, _] _ _
  (have hasc := asc_at hc; rcases hc with rfl | rfl | rfl | rfl | rfl | rfl | rfl | rfl) <;> (
    refine ds_guard (DT.is (dt_w (dw_or (dt_not (dt_e (de_isi .tuple F (n_isinstance T) (n_tuple T) (de_v 0 h0)))) fun hb2 => (dw_one_or (dt_not (dt_e (de_allT 1 F (n_all T) (de_v 0 h0) (by intro d v1_ H_ u_ hd h1 F; (obtain ⟨z, rfl, hz⟩ : ∃ z, d = PyData.str z ∧ memS z [.str "great", .str "small", .str "take"] = true := by (clear h0 h1; simp at hd <;> (try rcases hd with rfl | rfl | rfl) <;> (try rcases hd with rfl | rfl) <;> (try subst hd) <;> exact ⟨_, rfl, by decide⟩)); replace h0 := dp_up u_ _ _ h0; exact DE.is (de_f F (f_is_one_of T) (xa_d (de_v 1 h1) (xa_d (de_g F (g_WRITINGS T)) xa_nil)) ⟨_, _, rfl, rfl, rfl⟩) (by exact congrArg PyData.bool hz)) (ok := by intro _; show BlkOk ["value", "act", "one", "other"] (defScope s_need_others) _ _; exact ⟨rfl, by decide +kernel, by decide +kernel, by decide +kernel, by decide +kernel⟩))))))) (by first | rfl | decide | simp_all)) fun H1 e1 => ?_
    replace h0 := dp_up (up_of e1) _ _ h0
    replace hq := hq.up e1
    refine ds_guard (DT.is (dt_not (dt_e (de_allI (own := [("one", 2), ("other", 3)]) (fs := fun i => [List.getD _ i .none, List.getD _ i .none]) F (n_all T) (se_zipT F (n_zip T) (de_v 0 h0) (de_slT F (de_v 0 h0) (oe_some (K := K) de_int) oe_none) rfl) (tb_tup (F.blk _) (gn_cons (F.blk _) 2 (gn_cons (F.blk _) 3 gn_nil))) rfl (fun i hi => ⟨rfl, rfl⟩) (by decide) (by intro _; show BlkOk ["value", "act", "one", "other"] (defScope s_need_others) _ _; exact ⟨rfl, by decide +kernel, by decide +kernel, by decide +kernel, by decide +kernel⟩) (by intro i vs H_ u_ hi hl hd F; obtain ⟨v2_, v3_, rfl, h2, h3⟩ := dpa2 hd; obtain ⟨x, y, e1_, e2_, e3_⟩ := hasc i hi; exact DE.is (de_cmp (de_v 2 (e1_ ▸ h2)) (de_v 3 (e2_ ▸ h3)) cm_lts) (congrArg PyData.bool e3_))))) (by first | rfl | decide | simp_all)) fun H3 e3 => ?_
    replace h0 := dp_up (up_of e3) _ _ h0
    replace hq := hq.up e3
    exact ds_nil (hq _ _ (Same.refl _) .non))
end
end PK
namespace PK
open L2 PySem PySem.Spec PyProof.Rows
def evs : List Str := ["great", "small", "take", "tick", "answered", "unheard", "unsent", "come"]
def evL (o : Stp) (s : StD) (ot : List Str) (n : Str) : List Str := evs.filter fun e => canHappen o s e ot n
def canP (o : Stp) (s : StD) (ot : List Str) (n : Str) : PyData → Bool
  | .str e => canHappen o s e ot n
  | _ => false
theorem evs_ok {d : PyData} (h : d ∈ evs.map PyData.str) : ∃ e, d = .str e ∧ EvOk e := by
  simp [evs] at h
  unfold EvOk
  rcases h with rfl | rfl | rfl | rfl | rfl | rfl | rfl | rfl <;> exact ⟨_, rfl, by simp⟩
theorem evL_eq (o : Stp) (s : StD) (ot : List Str) (n : Str) : ((evs.map PyData.str).filter (canP o s ot n)).map id = (evL o s ot n).map PyData.str := by
  rw [List.map_id, List.filter_map]
  rfl
theorem evL_in (o : Stp) (s : StD) (ot : List Str) (n e : Str) (h : e ∈ evL o s ot n) : EvOk e ∧ canHappen o s e ot n = true := by
  obtain ⟨h1, h2⟩ := List.mem_filter.mp h
  refine ⟨?_, h2⟩
  obtain ⟨e', q, h3⟩ := evs_ok (List.mem_map_of_mem (f := PyData.str) h1)
  cases q
  exact h3
def NetOk (n : Str) : Prop := n = "sure" ∨ n = "lost" ∨ n = "late" ∨ n = "again"
theorem done_wr {o : Stp} {s : Str} {c : Cp} (h : isDoneBy o s c = true) : isWr o = true := by
  cases o <;> first | rfl | exact h
theorem can_of {ss : List PyData} {s : StD} {o o2 : Stp} {e n : Str} {ot : List Str} (he : EvOk e) (h1 : At ss s.num o) (h2 : LateAt ss s o2) (h : canHappen o s e ot n = true) : Can ss s o o2 e := by
  refine ⟨he, h1, h2, fun q => ?_, fun q => ?_, fun q => ?_, fun q => ?_⟩
  · subst q
    have h : (!endB o) = true := h
    simpa using h
  · subst q
    have h : (if n = "sure" then false else isDoneBy o s.srv s.cp) = true := h
    split at h
    · cases h
    · exact done_wr h
  · subst q
    have h : (if n = "sure" then false else isReq o) = true := h
    split at h
    · cases h
    · exact h
  · subst q
    have h : (if n = "sure" then false else memS n [.str "late", .str "again"] && s.lt.isSome) = true := h
    split at h
    · cases h
    · exact (Bool.and_eq_true_iff.mp h).2
theorem evs_mem {e : Str} (h : EvOk e) : memS e [.str "great", .str "small", .str "take", .str "tick", .str "answered", .str "unheard", .str "unsent", .str "come"] = true := by
  rcases h with rfl | rfl | rfl | rfl | rfl | rfl | rfl | rfl <;> decide
def lateK (s : StD) : Int := match s.lt with
  | some (_, _, m) => m
  | none => 0
/-- whether a done request of a client that saw nothing is a fault -/
def notNone : Stp → Bool
  | .put k _ _ _ _ => !decide (k = "none")
  | _ => false
def faultD (o : Stp) (s : StD) (c : Cp) (kn : Int) (p : Str) : Bool := bif (!isDoneBy o s.srv c || (decide (kn = 1) || decide (s.ow = 1))) then false else bif decide (p = "kept") then isThere s.srv else decide (s.srv = "gone") && notNone o
section
variable {o : Stp} {s : StD} {c : Cp} {kn : Int} {p : Str}
theorem fd_t (h : (!isDoneBy o s.srv c || (decide (kn = 1) || decide (s.ow = 1))) = true) : false = faultD o s c kn p := by
  unfold faultD
  rw [h] <;> rfl
theorem fd_k (h : (!isDoneBy o s.srv c || (decide (kn = 1) || decide (s.ow = 1))) = false) (hp : decide (p = "kept") = true) : isThere s.srv = faultD o s c kn p := by
  unfold faultD
  rw [h, hp] <;> rfl
theorem fd_g (h : (!isDoneBy o s.srv c || (decide (kn = 1) || decide (s.ow = 1))) = false) (hp : decide (p = "kept") = false) : (decide (s.srv = "gone") && notNone o) = faultD o s c kn p := by
  unfold faultD
  rw [h, hp] <;> rfl
end
def faultIn (o o2 : Stp) (s : StD) (e p : Str) : Bool :=
  if e = "come" then faultD o2 s (lateC s) (lateK s) p else if e = "answered" then faultD o s s.cp s.kn p else if e = "unheard" then faultD o s s.cp s.kn p else false
section
variable {P : Program} {w : World} {K : PySem.W.Frag} {mg : Str → Option Value} {base : Heap} (T : Txt w K mg)
include T
def pre_events_in (xs : List Dx) (r : PyData) : Prop := ∃ (ss : List PyData) (s : StD) (o : Stp) (ot : List Str) (n : Str), xs = [.scr ss, .d (s.d), .d (.tuple (ot.map .str)), .d (.str n)] ∧ (At ss s.num o) ∧ r = .list ((evL o s ot n).map .str)
theorem f_events_in : FnC P w K mg base 7 "events_in" (Spf K pre_events_in) := by
  refine fnC_pure (N := ["script", "state", "others", "net", "event"]) (ps := ["script", "state", "others", "net"]) (h_events_in T) (m_events_in T) ⟨rfl, rfl, rfl, by decide +kernel, rfl, by decide +kernel, by decide +kernel⟩ (fun _ _ _ _ _ _ us hl => match us, hl with | [_, _, _, _], _ => rfl) (fun xs r h => by
    obtain ⟨_, _, _, _, _, rfl, _⟩ := h
    rfl) ?_
  intro Y cdv A outer s_ H vs xs r Q E hY F hv hp hq
  subst hY
  obtain ⟨ss, s, o, ot, n, rfl, hc, rfl⟩ := hp
  obtain ⟨v0_, v1_, v2_, v3_, rfl, h0, h1, h2, h3⟩ := vxs4 hv
  show DSs _ _ [some v0_, some v1_, some v2_, some v3_, _] _ _
  refine ds_ret (DE.is (de_lcTf 4 id (canP o s ot n) F (ds := evs.map PyData.str) (de_g F (g_EVENTS T)) (by intro d v4_ H_ u_ hd h4 ; obtain ⟨e, rfl, he⟩ := evs_ok hd; replace h0 := vx_up u_ h0; replace h1 := dp_up u_ _ _ h1; replace h2 := dp_up u_ _ _ h2; replace h3 := dp_up u_ _ _ h3; exact dt_e (de_f (F.blk _) (f_can_happen T) (xa_x (xe_v 0 h0) (xa_d (de_v 1 h1) (xa_d (de_v 4 h4) (xa_d (de_v 2 h2) (xa_d (de_v 3 h3) xa_nil))))) ⟨_, _, o, _, _, _, rfl, ⟨he, hc⟩, rfl⟩)) (by intro d v4_ H_ u_ hd _ h4; exact de_v 4 h4) rfl (by decide) (by intro _; show BlkOk ["script", "state", "others", "net", "event"] (defScope s_events_in) _ _; exact ⟨rfl, by decide +kernel, by decide +kernel, by decide +kernel, by decide +kernel⟩)) (congrArg PyData.list (evL_eq o s ot n))) hq rfl
def pre_events_of (xs : List Dx) (r : PyData) : Prop := ∃ (ss : List PyData) (s : StD) (o : Stp) (ot : List Str) (n : Str), xs = [.scr ss, .d (s.d), .d (.tuple (ot.map .str)), .d (.str n)] ∧ (StaOk ss s ∧ At ss s.num o ∧ OthOk ot ∧ NetOk n) ∧ r = .tuple ((evL o s ot n).map .str)
theorem f_events_of : FnC P w K mg base 8 "events_of" (Spf K pre_events_of) := by
  refine fnC_pure (N := ["script", "state", "others", "net"]) (ps := ["script", "state", "others", "net"]) (h_events_of T) (m_events_of T) ⟨rfl, rfl, rfl, by decide +kernel, rfl, by decide +kernel, by decide +kernel⟩ (fun _ _ _ _ _ _ us hl => match us, hl with | [_, _, _, _], _ => rfl) (fun xs r h => by
    obtain ⟨_, _, _, _, _, rfl, _⟩ := h
    rfl) ?_
  intro Y cdv A outer s_ H vs xs r Q E hY F hv hp hq
  subst hY
  obtain ⟨ss, s, o, ot, n, rfl, hc, rfl⟩ := hp
  obtain ⟨v0_, v1_, v2_, v3_, rfl, h0, h1, h2, h3⟩ := vxs4 hv
  show DSs _ _ [some v0_, some v1_, some v2_, some v3_] _ _
  refine ds_expr (de_f F (f_need_state T) (xa_x (xe_v 0 h0) (xa_d (de_v 1 h1) xa_nil)) ⟨_, _, rfl, hc.1, rfl⟩) fun _ H1 e1 _ => ?_
  replace h0 := vx_up (up_of e1) h0
  replace h1 := dp_up (up_of e1) _ _ h1
  replace h2 := dp_up (up_of e1) _ _ h2
  replace h3 := dp_up (up_of e1) _ _ h3
  replace hq := hq.up e1
  refine ds_expr (de_f F (f_need_others T) (xa_d (de_v 2 h2) xa_nil) ⟨_, rfl, hc.2.2.1, rfl⟩) fun _ H2 e2 _ => ?_
  replace h0 := vx_up (up_of e2) h0
  replace h1 := dp_up (up_of e2) _ _ h1
  replace h2 := dp_up (up_of e2) _ _ h2
  replace h3 := dp_up (up_of e2) _ _ h3
  replace hq := hq.up e2
  refine ds_expr (de_f F (f_need_net T) (xa_d (de_v 3 h3) xa_nil) ⟨_, rfl, hc.2.2.2, rfl⟩) fun _ H3 e3 _ => ?_
  replace h0 := vx_up (up_of e3) h0
  replace h1 := dp_up (up_of e3) _ _ h1
  replace h2 := dp_up (up_of e3) _ _ h2
  replace h3 := dp_up (up_of e3) _ _ h3
  replace hq := hq.up e3
  exact ds_ret (de_tupleOf F (n_tuple T) (de_f F (f_events_in T) (xa_x (xe_v 0 h0) (xa_d (de_v 1 h1) (xa_d (de_v 2 h2) (xa_d (de_v 3 h3) xa_nil)))) ⟨_, _, o, _, _, rfl, hc.2.1, rfl⟩) (.inr rfl)) hq (by first | rfl | (simp_all [bif_str]; done))
def pre_step (xs : List Dx) (r : PyData) : Prop := ∃ (ss : List PyData) (s : StD) (o : Stp) (o2 : Stp) (e : Str) (ot : List Str) (n : Str), xs = [.scr ss, .d (s.d), .d (.str e), .d (.tuple (ot.map .str)), .d (.str n)] ∧ (StaOk ss s ∧ At ss s.num o ∧ OthOk ot ∧ NetOk n ∧ LateAt ss s o2 ∧ EvOk e ∧ canHappen o s e ot n = true) ∧ r = (steppedD o o2 s e n).d
theorem f_step : FnC P w K mg base 8 "step" (Spf K pre_step) := by
  refine fnC_pure (N := ["script", "state", "event", "others", "net"]) (ps := ["script", "state", "event", "others", "net"]) (h_step T) (m_step T) ⟨rfl, rfl, rfl, by decide +kernel, rfl, by decide +kernel, by decide +kernel⟩ (fun _ _ _ _ _ _ us hl => match us, hl with | [_, _, _, _, _], _ => rfl) (fun xs r h => by
    obtain ⟨_, _, _, _, _, _, _, rfl, _⟩ := h
    rfl) ?_
  intro Y cdv A outer s_ H vs xs r Q E hY F hv hp hq
  subst hY
  obtain ⟨ss, s, o, o2, e, ot, n, rfl, hc, rfl⟩ := hp
  obtain ⟨v0_, v1_, v2_, v3_, v4_, rfl, h0, h1, h2, h3, h4⟩ := vxs5 hv
  show DSs _ _ [some v0_, some v1_, some v2_, some v3_, some v4_] _ _
  refine ds_expr (de_f F (f_need_state T) (xa_x (xe_v 0 h0) (xa_d (de_v 1 h1) xa_nil)) ⟨_, _, rfl, hc.1, rfl⟩) fun _ H1 e1 _ => ?_
  replace h0 := vx_up (up_of e1) h0
  replace h1 := dp_up (up_of e1) _ _ h1
  replace h2 := dp_up (up_of e1) _ _ h2
  replace h3 := dp_up (up_of e1) _ _ h3
  replace h4 := dp_up (up_of e1) _ _ h4
  replace hq := hq.up e1
  refine ds_expr (de_f F (f_need_others T) (xa_d (de_v 3 h3) xa_nil) ⟨_, rfl, hc.2.2.1, rfl⟩) fun _ H2 e2 _ => ?_
  replace h0 := vx_up (up_of e2) h0
  replace h1 := dp_up (up_of e2) _ _ h1
  replace h2 := dp_up (up_of e2) _ _ h2
  replace h3 := dp_up (up_of e2) _ _ h3
  replace h4 := dp_up (up_of e2) _ _ h4
  replace hq := hq.up e2
  refine ds_expr (de_f F (f_need_net T) (xa_d (de_v 4 h4) xa_nil) ⟨_, rfl, hc.2.2.2.1, rfl⟩) fun _ H3 e3 _ => ?_
  replace h0 := vx_up (up_of e3) h0
  replace h1 := dp_up (up_of e3) _ _ h1
  replace h2 := dp_up (up_of e3) _ _ h2
  replace h3 := dp_up (up_of e3) _ _ h3
  replace h4 := dp_up (up_of e3) _ _ h4
  replace hq := hq.up e3
  refine ds_guard (DT.is (dt_w (dw_or (dt_not (dt_e (de_f F (f_is_one_of T) (xa_d (de_v 2 h2) (xa_d (de_g F (g_EVENTS T)) xa_nil)) ⟨_, _, rfl, rfl, rfl⟩))) fun hb5 => (dw_one_or (dt_not (dt_e (de_f F (f_can_happen T) (xa_x (xe_v 0 h0) (xa_d (de_v 1 h1) (xa_d (de_v 2 h2) (xa_d (de_v 3 h3) (xa_d (de_v 4 h4) xa_nil))))) ⟨_, _, _, _, _, _, rfl, ⟨hc.2.2.2.2.2.1, hc.2.1⟩, rfl⟩)))))) (by rw [evs_mem hc.2.2.2.2.2.1, hc.2.2.2.2.2.2] <;> rfl)) fun H4 e4 => ?_
  replace h0 := vx_up (up_of e4) h0
  replace h1 := dp_up (up_of e4) _ _ h1
  replace h2 := dp_up (up_of e4) _ _ h2
  replace h3 := dp_up (up_of e4) _ _ h3
  replace h4 := dp_up (up_of e4) _ _ h4
  replace hq := hq.up e4
  exact ds_ret (de_f F (f_stepped T) (xa_x (xe_v 0 h0) (xa_d (de_v 1 h1) (xa_d (de_v 2 h2) (xa_d (de_v 4 h4) xa_nil)))) ⟨_, _, _, _, _, _, rfl, can_of hc.2.2.2.2.2.1 hc.2.1 hc.2.2.2.2.1 hc.2.2.2.2.2.2, rfl⟩) hq (by first | rfl | (simp_all [bif_str]; done))
def pre_need_promise (xs : List Dx) (r : PyData) : Prop := ∃ (p : Str), xs = [.d (.str p), .d (.tuple [.str "kept", .str "gone"])] ∧ (p = "kept" ∨ p = "gone") ∧ r = .none
theorem f_need_promise : FnC P w K mg base 2 "need_promise" (Spf K pre_need_promise) := by
  refine fnC_pure (N := ["value", "some"]) (ps := ["value", "some"]) (h_need_promise T) (m_need_promise T) ⟨rfl, rfl, rfl, by decide +kernel, rfl, by decide +kernel, by decide +kernel⟩ (fun _ _ _ _ _ _ us hl => match us, hl with | [_, _], _ => rfl) (fun xs r h => by
    obtain ⟨_, rfl, _⟩ := h
    rfl) ?_
  intro Y cdv A outer s_ H vs xs r Q E hY F hv hp hq
  subst hY
  obtain ⟨p, rfl, hc, rfl⟩ := hp
  obtain ⟨v0_, v1_, rfl, h0, h1⟩ := vxs2 hv
  show DSs _ _ [some v0_, some v1_] _ _
  refine ds_guard (DT.is (dt_not (dt_e (de_f F (f_is_one_of T) (xa_d (de_v 0 h0) (xa_d (de_v 1 h1) xa_nil)) ⟨_, _, rfl, rfl, rfl⟩))) (by rcases hc with rfl | rfl <;> rfl)) fun H1 e1 => ?_
  replace h0 := dp_up (up_of e1) _ _ h0
  replace h1 := dp_up (up_of e1) _ _ h1
  replace hq := hq.up e1
  exact ds_nil (hq _ _ (Same.refl _) .non)
def pre_is_fault_in (xs : List Dx) (r : PyData) : Prop := ∃ (ss : List PyData) (s : StD) (o : Stp) (o2 : Stp) (e : Str) (p : Str), xs = [.scr ss, .d (s.d), .d (.str e), .d (.str p)] ∧ (Can ss s o o2 e) ∧ r = .bool (faultIn o o2 s e p)
theorem f_is_fault_in : FnC P w K mg base 6 "is_fault_in" (Spf K pre_is_fault_in) := by
  refine fnC_pure (N := ["script", "state", "event", "promise", "server", "number", "copy", "known", "own", "done", "late", "one"]) (ps := ["script", "state", "event", "promise"]) (h_is_fault_in T) (m_is_fault_in T) ⟨rfl, rfl, rfl, by decide +kernel, rfl, by decide +kernel, by decide +kernel⟩ (fun _ _ _ _ _ _ us hl => match us, hl with | [_, _, _, _], _ => rfl) (fun xs r h => by
    obtain ⟨_, _, _, _, _, _, rfl, _⟩ := h
    rfl) ?_
  intro Y cdv A outer s_ H vs xs r Q E hY F hv hp hq
  subst hY
  obtain ⟨ss, s, o, o2, e, p, rfl, hc, rfl⟩ := hp
  obtain ⟨v0_, v1_, v2_, v3_, rfl, h0, h1, h2, h3⟩ := vxs4 hv
  have hE := hc.ev
  obtain ⟨srv, num, cp, kn, ow, dn, lt⟩ := s
  show DSs _ _ [some v0_, some v1_, some v2_, some v3_, _, _, _, _, _, _, _, _] _ _
  (rcases hE with rfl | rfl | rfl | rfl | rfl | rfl | rfl | rfl; rotate_left 4; (rcases o with ⟨k, a, a1, a2, a3, a4⟩ | ⟨k, z, a, a1, a2⟩ | ⟨k, a, a1, a2, a3⟩ | m' | w_); rotate_left 5; (rcases o with ⟨k, a, a1, a2, a3, a4⟩ | ⟨k, z, a, a1, a2⟩ | ⟨k, a, a1, a2, a3⟩ | m' | w_); rotate_left 6; rcases lt with _ | ⟨j, c, m⟩; exact Bool.noConfusion (show false = true from hc.co rfl); (rcases o2 with ⟨k, a, a1, a2, a3, a4⟩ | ⟨k, z, a, a1, a2⟩ | ⟨k, a, a1, a2, a3⟩ | m' | w_)) <;> (
    refine ds_unp F (de_v 1 h1) (gn_cons F 4 (gn_cons F 5 (gn_cons F 6 (gn_cons F 7 (gn_cons F 8 (gn_cons F 9 (gn_cons F 10 gn_nil))))))) fun us1 H1 e1 hu1 => ?_
    replace h0 := vx_up (up_of e1) h0
    replace h1 := dp_up (up_of e1) _ _ h1
    replace h2 := dp_up (up_of e1) _ _ h2
    replace h3 := dp_up (up_of e1) _ _ h3
    replace hq := hq.up e1
    obtain ⟨v4_, v5_, v6_, v7_, v8_, v9_, v10_, rfl, h4, h5, h6, h7, h8, h9, h10⟩ := dpa7 hu1
    show DSs _ _ [some v0_, some v1_, some v2_, some v3_, some v4_, some v5_, some v6_, some v7_, some v8_, some v9_, some v10_, _] _ _
    refine ds_ife (dt_cmp (de_v 2 h2) (de_g F (g_COME T)) (by first | exact cm_eqs | exact cm_eqi | exact cm_eqb | exact cm_eqD F (by first | rfl | exact shaped_cp _ | exact shaped_lt _) (by first | rfl | exact shaped_cp _))) (fun hb2 H2 e2 => ?_) (fun hb2 H2 e2 => ?_)
    · try first | exact Bool.noConfusion (show false = true from hb2) | exact absurd hb2 (by decide)
      all_goals
        (replace h0 := vx_up (up_of e2) h0
         replace h1 := dp_up (up_of e2) _ _ h1
         replace h2 := dp_up (up_of e2) _ _ h2
         replace h3 := dp_up (up_of e2) _ _ h3
         replace h4 := dp_up (up_of e2) _ _ h4
         replace h5 := dp_up (up_of e2) _ _ h5
         replace h6 := dp_up (up_of e2) _ _ h6
         replace h7 := dp_up (up_of e2) _ _ h7
         replace h8 := dp_up (up_of e2) _ _ h8
         replace h9 := dp_up (up_of e2) _ _ h9
         replace h10 := dp_up (up_of e2) _ _ h10
         replace hq := hq.up e2
         refine ds_par3 (jx := 11) (jy := 6) (jz := 7) F (DE.toX (de_ixT F (de_steps F (c_Script T) (a_Script T) (xe_v 0 h0)) (de_ixT F (de_v 10 h10) de_int) ((hc.at2 _ _ _ rfl).1.1))) (DE.toX (de_ixT F (de_v 10 h10) de_int)) (DE.toX (de_ixT F (de_v 10 h10) de_int)) fun v11_ v6_ v7_ H3 e3 h11 h6 h7 => ?_
         replace h0 := vx_up (up_of e3) h0
         replace h1 := dp_up (up_of e3) _ _ h1
         replace h2 := dp_up (up_of e3) _ _ h2
         replace h3 := dp_up (up_of e3) _ _ h3
         replace h4 := dp_up (up_of e3) _ _ h4
         replace h5 := dp_up (up_of e3) _ _ h5
         replace h8 := dp_up (up_of e3) _ _ h8
         replace h9 := dp_up (up_of e3) _ _ h9
         replace h10 := dp_up (up_of e3) _ _ h10
         replace hq := hq.up e3
         show DSs _ _ [some v0_, some v1_, some v2_, some v3_, some v4_, some v5_, some v6_, some v7_, some v8_, some v9_, some v10_, some v11_] _ _
         refine ds_nil ?_
         show DSs _ _ _ _ _
         refine ds_if (dt_w (dw_or (dt_not (dt_e (de_f F (f_is_done_by T) (xa_d (de_v 11 h11) (xa_d (de_v 4 h4) (xa_d (de_v 6 h6) xa_nil))) ⟨_, _, _, rfl, (by first | exact hc.at1.2 | exact (hc.at2 _ _ _ rfl).1.2), rfl⟩))) fun hb6 => (dw_or (dt_cmp (de_v 7 h7) de_int (by first | exact cm_eqs | exact cm_eqi | exact cm_eqb | exact cm_eqD F (by first | rfl | exact shaped_cp _ | exact shaped_lt _) (by first | rfl | exact shaped_cp _))) fun hb5 => (dw_one_or (dt_cmp (de_v 8 h8) de_int (by first | exact cm_eqs | exact cm_eqi | exact cm_eqb | exact cm_eqD F (by first | rfl | exact shaped_cp _ | exact shaped_lt _) (by first | rfl | exact shaped_cp _))))))) (fun hb4 H4 e4 => ?_) (fun hb4 H4 e4 => ?_)
         · try first | exact Bool.noConfusion (show false = true from hb4) | exact absurd hb4 (by decide)
           all_goals
             (replace h0 := vx_up (up_of e4) h0
              replace h1 := dp_up (up_of e4) _ _ h1
              replace h2 := dp_up (up_of e4) _ _ h2
              replace h3 := dp_up (up_of e4) _ _ h3
              replace h4 := dp_up (up_of e4) _ _ h4
              replace h5 := dp_up (up_of e4) _ _ h5
              replace h6 := dp_up (up_of e4) _ _ h6
              replace h7 := dp_up (up_of e4) _ _ h7
              replace h8 := dp_up (up_of e4) _ _ h8
              replace h9 := dp_up (up_of e4) _ _ h9
              replace h10 := dp_up (up_of e4) _ _ h10
              replace h11 := dp_up (up_of e4) _ _ h11
              replace hq := hq.up e4
              exact ds_ret de_bl hq (by first | rfl | exact congrArg PyData.bool (fd_t (by assumption)) | exact congrArg PyData.bool (fd_k (by assumption) (by assumption)) | exact congrArg PyData.bool (fd_g (by assumption) (by assumption))))
         · try first | exact Bool.noConfusion (show true = false from hb4) | exact absurd hb4 (by decide)
           all_goals
             (replace h0 := vx_up (up_of e4) h0
              replace h1 := dp_up (up_of e4) _ _ h1
              replace h2 := dp_up (up_of e4) _ _ h2
              replace h3 := dp_up (up_of e4) _ _ h3
              replace h4 := dp_up (up_of e4) _ _ h4
              replace h5 := dp_up (up_of e4) _ _ h5
              replace h6 := dp_up (up_of e4) _ _ h6
              replace h7 := dp_up (up_of e4) _ _ h7
              replace h8 := dp_up (up_of e4) _ _ h8
              replace h9 := dp_up (up_of e4) _ _ h9
              replace h10 := dp_up (up_of e4) _ _ h10
              replace h11 := dp_up (up_of e4) _ _ h11
              replace hq := hq.up e4
              refine ds_if (dt_cmp (de_v 3 h3) de_str (by first | exact cm_eqs | exact cm_eqi | exact cm_eqb | exact cm_eqD F (by first | rfl | exact shaped_cp _ | exact shaped_lt _) (by first | rfl | exact shaped_cp _))) (fun hb7 H7 e7 => ?_) (fun hb7 H7 e7 => ?_)
              · try first | exact Bool.noConfusion (show false = true from hb7) | exact absurd hb7 (by decide)
                all_goals
                  (replace h0 := vx_up (up_of e7) h0
                   replace h1 := dp_up (up_of e7) _ _ h1
                   replace h2 := dp_up (up_of e7) _ _ h2
                   replace h3 := dp_up (up_of e7) _ _ h3
                   replace h4 := dp_up (up_of e7) _ _ h4
                   replace h5 := dp_up (up_of e7) _ _ h5
                   replace h6 := dp_up (up_of e7) _ _ h6
                   replace h7 := dp_up (up_of e7) _ _ h7
                   replace h8 := dp_up (up_of e7) _ _ h8
                   replace h9 := dp_up (up_of e7) _ _ h9
                   replace h10 := dp_up (up_of e7) _ _ h10
                   replace h11 := dp_up (up_of e7) _ _ h11
                   replace hq := hq.up e7
                   exact ds_ret (de_f F (f_is_there T) (xa_d (de_v 4 h4) xa_nil) ⟨_, rfl, by first | trivial | assumption | omega | decide | simp_all, rfl⟩) hq (by first | rfl | exact congrArg PyData.bool (fd_t (by assumption)) | exact congrArg PyData.bool (fd_k (by assumption) (by assumption)) | exact congrArg PyData.bool (fd_g (by assumption) (by assumption))))
              · try first | exact Bool.noConfusion (show true = false from hb7) | exact absurd hb7 (by decide)
                all_goals
                  (replace h0 := vx_up (up_of e7) h0
                   replace h1 := dp_up (up_of e7) _ _ h1
                   replace h2 := dp_up (up_of e7) _ _ h2
                   replace h3 := dp_up (up_of e7) _ _ h3
                   replace h4 := dp_up (up_of e7) _ _ h4
                   replace h5 := dp_up (up_of e7) _ _ h5
                   replace h6 := dp_up (up_of e7) _ _ h6
                   replace h7 := dp_up (up_of e7) _ _ h7
                   replace h8 := dp_up (up_of e7) _ _ h8
                   replace h9 := dp_up (up_of e7) _ _ h9
                   replace h10 := dp_up (up_of e7) _ _ h10
                   replace h11 := dp_up (up_of e7) _ _ h11
                   replace hq := hq.up e7
                   exact ds_ret (de_and (de_cmp (de_v 4 h4) (de_g F (g_GONE T)) (by first | exact cm_eqs | exact cm_eqi | exact cm_eqb | exact cm_eqD F (by first | rfl | exact shaped_cp _ | exact shaped_lt _) (by first | rfl | exact shaped_cp _))) fun hb8 => (de_and (de_cmp (de_ixT F (de_v 11 h11) de_int) (de_g F (g_PUT T)) (by first | exact cm_eqs | exact cm_eqi | exact cm_eqb | exact cm_eqD F (by first | rfl | exact shaped_cp _ | exact shaped_lt _) (by first | rfl | exact shaped_cp _))) fun hb9 => (de_one (by first | exact (de_cmp (de_ixT F (de_v 11 h11) de_int) (de_g F (g_IF_NONE T)) (by first | exact cm_nes | exact cm_nei | exact cm_neD F (by first | rfl | exact shaped_cp _ | exact shaped_lt _) (by first | rfl | exact shaped_cp _))) | exact (show DE _ _ _ _ _ (.bool false) from (by first | exact Bool.noConfusion (show true = false from hb9) | exact Bool.noConfusion (show false = true from hb9) | exact Bool.noConfusion (show true = false from hb8) | exact Bool.noConfusion (show false = true from hb8))))))) hq (by first | rfl | exact congrArg PyData.bool (fd_t (by assumption)) | exact congrArg PyData.bool (fd_k (by assumption) (by assumption)) | exact congrArg PyData.bool (fd_g (by assumption) (by assumption))))))
    · try first | exact Bool.noConfusion (show true = false from hb2) | exact absurd hb2 (by decide)
      all_goals
        (replace h0 := vx_up (up_of e2) h0
         replace h1 := dp_up (up_of e2) _ _ h1
         replace h2 := dp_up (up_of e2) _ _ h2
         replace h3 := dp_up (up_of e2) _ _ h3
         replace h4 := dp_up (up_of e2) _ _ h4
         replace h5 := dp_up (up_of e2) _ _ h5
         replace h6 := dp_up (up_of e2) _ _ h6
         replace h7 := dp_up (up_of e2) _ _ h7
         replace h8 := dp_up (up_of e2) _ _ h8
         replace h9 := dp_up (up_of e2) _ _ h9
         replace h10 := dp_up (up_of e2) _ _ h10
         replace hq := hq.up e2
         refine ds_ife (dt_cmp (de_v 2 h2) (de_tup (xa_d (de_g F (g_ANSWERED T)) (xa_d (de_g F (g_UNHEARD T)) xa_nil))) (by first | exact cm_inS F | exact cm_inS F (by assumption) | exact cm_inD F (by first | rfl | exact shaped_cp _) (by first | rfl | assumption))) (fun hb10 H10 e10 => ?_) (fun hb10 H10 e10 => ?_)
         · try first | exact Bool.noConfusion (show false = true from hb10) | exact absurd hb10 (by decide)
           all_goals
             (replace h0 := vx_up (up_of e10) h0
              replace h1 := dp_up (up_of e10) _ _ h1
              replace h2 := dp_up (up_of e10) _ _ h2
              replace h3 := dp_up (up_of e10) _ _ h3
              replace h4 := dp_up (up_of e10) _ _ h4
              replace h5 := dp_up (up_of e10) _ _ h5
              replace h6 := dp_up (up_of e10) _ _ h6
              replace h7 := dp_up (up_of e10) _ _ h7
              replace h8 := dp_up (up_of e10) _ _ h8
              replace h9 := dp_up (up_of e10) _ _ h9
              replace h10 := dp_up (up_of e10) _ _ h10
              replace hq := hq.up e10
              refine ds_set (F := F) 11 (de_ixT F (de_steps F (c_Script T) (a_Script T) (xe_v 0 h0)) (de_v 5 h5) (hc.at1.1)) fun v11_ H11 e11 h11 => ?_
              replace h0 := vx_up (up_of e11) h0
              replace h1 := dp_up (up_of e11) _ _ h1
              replace h2 := dp_up (up_of e11) _ _ h2
              replace h3 := dp_up (up_of e11) _ _ h3
              replace h4 := dp_up (up_of e11) _ _ h4
              replace h5 := dp_up (up_of e11) _ _ h5
              replace h6 := dp_up (up_of e11) _ _ h6
              replace h7 := dp_up (up_of e11) _ _ h7
              replace h8 := dp_up (up_of e11) _ _ h8
              replace h9 := dp_up (up_of e11) _ _ h9
              replace h10 := dp_up (up_of e11) _ _ h10
              replace hq := hq.up e11
              show DSs _ _ [some v0_, some v1_, some v2_, some v3_, some v4_, some v5_, some v6_, some v7_, some v8_, some v9_, some v10_, some v11_] _ _
              refine ds_nil ?_
              show DSs _ _ _ _ _
              refine ds_nil ?_
              show DSs _ _ _ _ _
              refine ds_if (dt_w (dw_or (dt_not (dt_e (de_f F (f_is_done_by T) (xa_d (de_v 11 h11) (xa_d (de_v 4 h4) (xa_d (de_v 6 h6) xa_nil))) ⟨_, _, _, rfl, (by first | exact hc.at1.2 | exact (hc.at2 _ _ _ rfl).1.2), rfl⟩))) fun hb14 => (dw_or (dt_cmp (de_v 7 h7) de_int (by first | exact cm_eqs | exact cm_eqi | exact cm_eqb | exact cm_eqD F (by first | rfl | exact shaped_cp _ | exact shaped_lt _) (by first | rfl | exact shaped_cp _))) fun hb13 => (dw_one_or (dt_cmp (de_v 8 h8) de_int (by first | exact cm_eqs | exact cm_eqi | exact cm_eqb | exact cm_eqD F (by first | rfl | exact shaped_cp _ | exact shaped_lt _) (by first | rfl | exact shaped_cp _))))))) (fun hb12 H12 e12 => ?_) (fun hb12 H12 e12 => ?_)
              · try first | exact Bool.noConfusion (show false = true from hb12) | exact absurd hb12 (by decide)
                all_goals
                  (replace h0 := vx_up (up_of e12) h0
                   replace h1 := dp_up (up_of e12) _ _ h1
                   replace h2 := dp_up (up_of e12) _ _ h2
                   replace h3 := dp_up (up_of e12) _ _ h3
                   replace h4 := dp_up (up_of e12) _ _ h4
                   replace h5 := dp_up (up_of e12) _ _ h5
                   replace h6 := dp_up (up_of e12) _ _ h6
                   replace h7 := dp_up (up_of e12) _ _ h7
                   replace h8 := dp_up (up_of e12) _ _ h8
                   replace h9 := dp_up (up_of e12) _ _ h9
                   replace h10 := dp_up (up_of e12) _ _ h10
                   replace h11 := dp_up (up_of e12) _ _ h11
                   replace hq := hq.up e12
                   exact ds_ret de_bl hq (by first | rfl | exact congrArg PyData.bool (fd_t (by assumption)) | exact congrArg PyData.bool (fd_k (by assumption) (by assumption)) | exact congrArg PyData.bool (fd_g (by assumption) (by assumption))))
              · try first | exact Bool.noConfusion (show true = false from hb12) | exact absurd hb12 (by decide)
                all_goals
                  (replace h0 := vx_up (up_of e12) h0
                   replace h1 := dp_up (up_of e12) _ _ h1
                   replace h2 := dp_up (up_of e12) _ _ h2
                   replace h3 := dp_up (up_of e12) _ _ h3
                   replace h4 := dp_up (up_of e12) _ _ h4
                   replace h5 := dp_up (up_of e12) _ _ h5
                   replace h6 := dp_up (up_of e12) _ _ h6
                   replace h7 := dp_up (up_of e12) _ _ h7
                   replace h8 := dp_up (up_of e12) _ _ h8
                   replace h9 := dp_up (up_of e12) _ _ h9
                   replace h10 := dp_up (up_of e12) _ _ h10
                   replace h11 := dp_up (up_of e12) _ _ h11
                   replace hq := hq.up e12
                   refine ds_if (dt_cmp (de_v 3 h3) de_str (by first | exact cm_eqs | exact cm_eqi | exact cm_eqb | exact cm_eqD F (by first | rfl | exact shaped_cp _ | exact shaped_lt _) (by first | rfl | exact shaped_cp _))) (fun hb15 H15 e15 => ?_) (fun hb15 H15 e15 => ?_)
                   · try first | exact Bool.noConfusion (show false = true from hb15) | exact absurd hb15 (by decide)
                     all_goals
                       (replace h0 := vx_up (up_of e15) h0
                        replace h1 := dp_up (up_of e15) _ _ h1
                        replace h2 := dp_up (up_of e15) _ _ h2
                        replace h3 := dp_up (up_of e15) _ _ h3
                        replace h4 := dp_up (up_of e15) _ _ h4
                        replace h5 := dp_up (up_of e15) _ _ h5
                        replace h6 := dp_up (up_of e15) _ _ h6
                        replace h7 := dp_up (up_of e15) _ _ h7
                        replace h8 := dp_up (up_of e15) _ _ h8
                        replace h9 := dp_up (up_of e15) _ _ h9
                        replace h10 := dp_up (up_of e15) _ _ h10
                        replace h11 := dp_up (up_of e15) _ _ h11
                        replace hq := hq.up e15
                        exact ds_ret (de_f F (f_is_there T) (xa_d (de_v 4 h4) xa_nil) ⟨_, rfl, by first | trivial | assumption | omega | decide | simp_all, rfl⟩) hq (by first | rfl | exact congrArg PyData.bool (fd_t (by assumption)) | exact congrArg PyData.bool (fd_k (by assumption) (by assumption)) | exact congrArg PyData.bool (fd_g (by assumption) (by assumption))))
                   · try first | exact Bool.noConfusion (show true = false from hb15) | exact absurd hb15 (by decide)
                     all_goals
                       (replace h0 := vx_up (up_of e15) h0
                        replace h1 := dp_up (up_of e15) _ _ h1
                        replace h2 := dp_up (up_of e15) _ _ h2
                        replace h3 := dp_up (up_of e15) _ _ h3
                        replace h4 := dp_up (up_of e15) _ _ h4
                        replace h5 := dp_up (up_of e15) _ _ h5
                        replace h6 := dp_up (up_of e15) _ _ h6
                        replace h7 := dp_up (up_of e15) _ _ h7
                        replace h8 := dp_up (up_of e15) _ _ h8
                        replace h9 := dp_up (up_of e15) _ _ h9
                        replace h10 := dp_up (up_of e15) _ _ h10
                        replace h11 := dp_up (up_of e15) _ _ h11
                        replace hq := hq.up e15
                        exact ds_ret (de_and (de_cmp (de_v 4 h4) (de_g F (g_GONE T)) (by first | exact cm_eqs | exact cm_eqi | exact cm_eqb | exact cm_eqD F (by first | rfl | exact shaped_cp _ | exact shaped_lt _) (by first | rfl | exact shaped_cp _))) fun hb16 => (de_and (de_cmp (de_ixT F (de_v 11 h11) de_int) (de_g F (g_PUT T)) (by first | exact cm_eqs | exact cm_eqi | exact cm_eqb | exact cm_eqD F (by first | rfl | exact shaped_cp _ | exact shaped_lt _) (by first | rfl | exact shaped_cp _))) fun hb17 => (de_one (by first | exact (de_cmp (de_ixT F (de_v 11 h11) de_int) (de_g F (g_IF_NONE T)) (by first | exact cm_nes | exact cm_nei | exact cm_neD F (by first | rfl | exact shaped_cp _ | exact shaped_lt _) (by first | rfl | exact shaped_cp _))) | exact (show DE _ _ _ _ _ (.bool false) from (by first | exact Bool.noConfusion (show true = false from hb17) | exact Bool.noConfusion (show false = true from hb17) | exact Bool.noConfusion (show true = false from hb16) | exact Bool.noConfusion (show false = true from hb16))))))) hq (by first | rfl | exact congrArg PyData.bool (fd_t (by assumption)) | exact congrArg PyData.bool (fd_k (by assumption) (by assumption)) | exact congrArg PyData.bool (fd_g (by assumption) (by assumption))))))
         · try first | exact Bool.noConfusion (show true = false from hb10) | exact absurd hb10 (by decide)
           all_goals
             (replace h0 := vx_up (up_of e10) h0
              replace h1 := dp_up (up_of e10) _ _ h1
              replace h2 := dp_up (up_of e10) _ _ h2
              replace h3 := dp_up (up_of e10) _ _ h3
              replace h4 := dp_up (up_of e10) _ _ h4
              replace h5 := dp_up (up_of e10) _ _ h5
              replace h6 := dp_up (up_of e10) _ _ h6
              replace h7 := dp_up (up_of e10) _ _ h7
              replace h8 := dp_up (up_of e10) _ _ h8
              replace h9 := dp_up (up_of e10) _ _ h9
              replace h10 := dp_up (up_of e10) _ _ h10
              replace hq := hq.up e10
              exact ds_ret de_bl hq (by first | rfl | exact congrArg PyData.bool (fd_t (by assumption)) | exact congrArg PyData.bool (fd_k (by assumption) (by assumption)) | exact congrArg PyData.bool (fd_g (by assumption) (by assumption))))))
end
end PK
namespace PK
open L2 PySem PySem.Spec PyProof.Rows
abbrev allW : List Str := ["great", "small", "take"]
/-- the two steps that lead to one another -/
def turnS : List PyData := [(Stp.forget 1).d, (Stp.forget 0).d]
def turnSt (i : Nat) : StD := ⟨"never", ((i % 2 : Nat) : Int), none, 0, 0, 0, none⟩
def ansN (n : Nat) : List PyData := List.replicate n (.str "answered")
theorem turn_at (i : Nat) : ∃ m : Int, At turnS (turnSt i).num (.forget m) ∧ m = (((i + 1) % 2 : Nat) : Int) := by
  have h : i % 2 = 0 ∨ i % 2 = 1 := by omega
  rcases h with h | h
  · refine ⟨1, ⟨?_, trivial⟩, by omega⟩
    show atI turnS ((i % 2 : Nat) : Int) = _
    rw [h] <;> rfl
  · refine ⟨0, ⟨?_, trivial⟩, by omega⟩
    show atI turnS ((i % 2 : Nat) : Int) = _
    rw [h] <;> rfl
section
variable {P : Program} {w : World} {K : PySem.W.Frag} {mg : Str → Option Value} {base : Heap} (T : Txt w K mg)
include T
def pre_is_fault (xs : List Dx) (r : PyData) : Prop := ∃ (ss : List PyData) (s : StD) (o : Stp) (o2 : Stp) (e : Str) (p : Str), xs = [.scr ss, .d (s.d), .d (.str e), .d (.str p)] ∧ (StaOk ss s ∧ At ss s.num o ∧ LateAt ss s o2 ∧ EvOk e ∧ canHappen o s e allW "again" = true ∧ (p = "kept" ∨ p = "gone")) ∧ r = .bool (faultIn o o2 s e p)
theorem f_is_fault : FnC P w K mg base 8 "is_fault" (Spf K pre_is_fault) := by
  refine fnC_pure (N := ["script", "state", "event", "promise"]) (ps := ["script", "state", "event", "promise"]) (h_is_fault T) (m_is_fault T) ⟨rfl, rfl, rfl, by decide +kernel, rfl, by decide +kernel, by decide +kernel⟩ (fun _ _ _ _ _ _ us hl => match us, hl with | [_, _, _, _], _ => rfl) (fun xs r h => by
    obtain ⟨_, _, _, _, _, _, rfl, _⟩ := h
    rfl) ?_
  intro Y cdv A outer s_ H vs xs r Q E hY F hv hp hq
  subst hY
  obtain ⟨ss, s, o, o2, e, p, rfl, hc, rfl⟩ := hp
  obtain ⟨v0_, v1_, v2_, v3_, rfl, h0, h1, h2, h3⟩ := vxs4 hv
  show DSs _ _ [some v0_, some v1_, some v2_, some v3_] _ _
  refine ds_expr (de_f F (f_need_state T) (xa_x (xe_v 0 h0) (xa_d (de_v 1 h1) xa_nil)) ⟨_, _, rfl, hc.1, rfl⟩) fun _ H1 e1 _ => ?_
  replace h0 := vx_up (up_of e1) h0
  replace h1 := dp_up (up_of e1) _ _ h1
  replace h2 := dp_up (up_of e1) _ _ h2
  replace h3 := dp_up (up_of e1) _ _ h3
  replace hq := hq.up e1
  refine ds_guard (DT.is (dt_w (dw_or (dt_not (dt_e (de_f F (f_is_one_of T) (xa_d (de_v 2 h2) (xa_d (de_g F (g_EVENTS T)) xa_nil)) ⟨_, _, rfl, rfl, rfl⟩))) fun hb3 => (dw_one_or (dt_not (dt_e (de_f F (f_can_happen T) (xa_x (xe_v 0 h0) (xa_d (de_v 1 h1) (xa_d (de_v 2 h2) (xa_d (de_tup (xa_d (de_g F (g_GREAT T)) (xa_d (de_g F (g_SMALL T)) (xa_d (de_g F (g_TAKE T)) xa_nil)))) (xa_d (de_g F (g_AGAIN T)) xa_nil))))) ⟨_, _, o, _, allW, _, rfl, ⟨hc.2.2.2.1, hc.2.1⟩, rfl⟩)))))) (by rw [evs_mem hc.2.2.2.1, hc.2.2.2.2.1] <;> rfl)) fun H2 e2 => ?_
  replace h0 := vx_up (up_of e2) h0
  replace h1 := dp_up (up_of e2) _ _ h1
  replace h2 := dp_up (up_of e2) _ _ h2
  replace h3 := dp_up (up_of e2) _ _ h3
  replace hq := hq.up e2
  refine ds_expr (de_f F (f_need_promise T) (xa_d (de_v 3 h3) (xa_d (de_tup (xa_d (de_g F (g_KEPT T)) (xa_d (de_g F (g_TAKEN T)) xa_nil))) xa_nil)) ⟨_, rfl, hc.2.2.2.2.2, rfl⟩) fun _ H4 e4 _ => ?_
  replace h0 := vx_up (up_of e4) h0
  replace h1 := dp_up (up_of e4) _ _ h1
  replace h2 := dp_up (up_of e4) _ _ h2
  replace h3 := dp_up (up_of e4) _ _ h3
  replace hq := hq.up e4
  exact ds_ret (de_f F (f_is_fault_in T) (xa_x (xe_v 0 h0) (xa_d (de_v 1 h1) (xa_d (de_v 2 h2) (xa_d (de_v 3 h3) xa_nil)))) ⟨_, _, _, _, _, _, rfl, can_of hc.2.2.2.1 hc.2.1 hc.2.2.1 hc.2.2.2.2.1, rfl⟩) hq (by first | rfl | (simp_all [bif_str]; done))
def pre_walked (xs : List Dx) (r : PyData) : Prop := ∃ (n : Nat), xs = [.scr turnS, .d (.str "never"), .d (.list (ansN n)), .d (.tuple (([] : List Str).map .str)), .d (.str "sure")] ∧ (n < 1000) ∧ r = (turnSt n).d
theorem f_walked : FnC P w K mg base 9 "walked" (Spf K pre_walked) := by
  refine fnC_pure (N := ["script", "server", "events", "others", "net", "here", "number", "event"]) (ps := ["script", "server", "events", "others", "net"]) (h_walked T) (m_walked T) ⟨rfl, rfl, rfl, by decide +kernel, rfl, by decide +kernel, by decide +kernel⟩ (fun _ _ _ _ _ _ us hl => match us, hl with | [_, _, _, _, _], _ => rfl) (fun xs r h => by
    obtain ⟨_, rfl, _⟩ := h
    rfl) ?_
  intro Y cdv A outer s_ H vs xs r Q E hY F hv hp hq
  subst hY
  obtain ⟨n, rfl, hc, rfl⟩ := hp
  obtain ⟨v0_, v1_, v2_, v3_, v4_, rfl, h0, h1, h2, h3, h4⟩ := vxs5 hv
  show DSs _ _ [some v0_, some v1_, some v2_, some v3_, some v4_, _, _, _] _ _
  refine ds_expr (de_f F (f_need_server T) (xa_d (de_v 1 h1) xa_nil) ⟨_, rfl, rfl, rfl⟩) fun _ H1 e1 _ => ?_
  replace h0 := vx_up (up_of e1) h0
  replace h1 := dp_up (up_of e1) _ _ h1
  replace h2 := dp_up (up_of e1) _ _ h2
  replace h3 := dp_up (up_of e1) _ _ h3
  replace h4 := dp_up (up_of e1) _ _ h4
  replace hq := hq.up e1
  refine ds_expr (de_f F (f_need_others T) (xa_d (de_v 3 h3) xa_nil) ⟨_, rfl, .inl rfl, rfl⟩) fun _ H2 e2 _ => ?_
  replace h0 := vx_up (up_of e2) h0
  replace h1 := dp_up (up_of e2) _ _ h1
  replace h2 := dp_up (up_of e2) _ _ h2
  replace h3 := dp_up (up_of e2) _ _ h3
  replace h4 := dp_up (up_of e2) _ _ h4
  replace hq := hq.up e2
  refine ds_expr (de_f F (f_need_net T) (xa_d (de_v 4 h4) xa_nil) ⟨_, rfl, .inl rfl, rfl⟩) fun _ H3 e3 _ => ?_
  replace h0 := vx_up (up_of e3) h0
  replace h1 := dp_up (up_of e3) _ _ h1
  replace h2 := dp_up (up_of e3) _ _ h2
  replace h3 := dp_up (up_of e3) _ _ h3
  replace h4 := dp_up (up_of e3) _ _ h4
  replace hq := hq.up e3
  refine ds_guard (DT.is (dt_not (dt_e (de_isi2 .list .tuple F (n_isinstance T) (n_list T) (n_tuple T) (de_v 2 h2)))) (by first | rfl | decide | simp_all)) fun H4 e4 => ?_
  replace h0 := vx_up (up_of e4) h0
  replace h1 := dp_up (up_of e4) _ _ h1
  replace h2 := dp_up (up_of e4) _ _ h2
  replace h3 := dp_up (up_of e4) _ _ h3
  replace h4 := dp_up (up_of e4) _ _ h4
  replace hq := hq.up e4
  refine ds_set (F := F) 5 (de_f F (f_first_of T) (xa_d (de_v 1 h1) xa_nil) ⟨_, rfl, by first | trivial | assumption | omega | decide | simp_all, rfl⟩) fun v5_ H5 e5 h5 => ?_
  replace h0 := vx_up (up_of e5) h0
  replace h1 := dp_up (up_of e5) _ _ h1
  replace h2 := dp_up (up_of e5) _ _ h2
  replace h3 := dp_up (up_of e5) _ _ h3
  replace h4 := dp_up (up_of e5) _ _ h4
  replace hq := hq.up e5
  show DSs _ _ [some v0_, some v1_, some v2_, some v3_, some v4_, some v5_, _, _] _ _
  refine ds_for F (se_enumL F (n_enumerate T) (de_v 2 h2)) (tb_tup F (gn_cons F 6 (gn_cons F 7 gn_nil))) (fs := fun i => [.int (i : Nat), (ansN n).getD i .none]) (fun i hi => ⟨rfl, rfl⟩) fun Hl el => ?_
  replace h0 := vx_up (up_of el) h0
  replace h3 := dp_up (up_of el) _ _ h3
  replace h4 := dp_up (up_of el) _ _ h4
  replace h5 := dp_up (up_of el) _ _ h5
  replace hq := hq.up el
  refine ⟨fun i σ' H' => ∃ a b c, Same Hl H' ∧ σ' = [some v0_, some v1_, some v2_, some v3_, some v4_, some a, b, c] ∧ Dp K H' a (turnSt i).d, ⟨v5_, none, none, Same.refl _, rfl, h5⟩, fun i σ' H' h => by
    obtain ⟨_, _, _, h, _⟩ := h
    exact up_of h, fun i σ' H' H'' vs hi h e2 hl hd => ?_, fun σ' H' h => ?_⟩
  · obtain ⟨v5_, b, c, e1, rfl, h5⟩ := h
    obtain ⟨v6_, v7_, rfl, h6, h7⟩ := dpa2 hd
    have hi' : i < n := by simpa [ansN] using hi
    have e7 : (ansN n).getD i .none = .str "answered" := by simp [ansN, List.getD_eq_getElem?_getD, hi']
    rw [e7] at h7
    obtain ⟨m, hat, hm⟩ := turn_at i
    have hlate : LateAt turnS (turnSt i) (.forget m) := fun j c m h => nomatch h
    have hev : EvOk "answered" := by simp [EvOk]
    replace h0 := vx_up (up_of (e1.trans e2)) h0
    replace h3 := dp_up (up_of (e1.trans e2)) _ _ h3
    replace h4 := dp_up (up_of (e1.trans e2)) _ _ h4
    replace h5 := dp_up (up_of e2) _ _ h5
    refine ds_guard (DT.is (dt_w (dw_or (dt_not (dt_e (de_f F (f_is_one_of T) (xa_d (de_v 7 h7) (xa_d (de_g F (g_EVENTS T)) xa_nil)) ⟨_, _, rfl, rfl, rfl⟩))) fun _ => (dw_one_or (dt_not (dt_e (de_f F (f_can_happen T) (xa_x (xe_v 0 h0) (xa_d (de_v 5 h5) (xa_d (de_v 7 h7) (xa_d (de_v 3 h3) (xa_d (de_v 4 h4) xa_nil))))) ⟨_, _, .forget m, _, [], _, rfl, ⟨hev, hat⟩, rfl⟩)))))) rfl) fun H3 e3 => ?_
    replace h0 := vx_up (up_of e3) h0
    replace h4 := dp_up (up_of e3) _ _ h4
    replace h5 := dp_up (up_of e3) _ _ h5
    replace h7 := dp_up (up_of e3) _ _ h7
    refine ds_set (F := F) 5 (de_f F (f_stepped T) (xa_x (xe_v 0 h0) (xa_d (de_v 5 h5) (xa_d (de_v 7 h7) (xa_d (de_v 4 h4) xa_nil)))) ⟨_, _, .forget m, .forget m, _, _, rfl, can_of hev hat hlate (ot := []) (n := "sure") rfl, rfl⟩) fun v5' H4 e4 h5' => ?_
    refine ds_nil ⟨v5', _, _, ((e1.trans e2).trans e3).trans e4, rfl, ?_⟩
    have es : steppedD (.forget m) (.forget m) (turnSt i) "answered" "sure" = turnSt (i + 1) := by
      rw [hm] <;> rfl
    rw [← es]
    exact h5'
  · obtain ⟨v5_, b, c, e1, rfl, h5⟩ := h
    have en : (ansN n).length = n := by simp [ansN]
    rw [en] at h5
    exact ds_ret (de_v 5 h5) (hq.up e1) rfl
end
end PK
namespace PK
open L2 PySem PySem.Spec PyProof.Rows
theorem stp_noL (o : Stp) : noL o.d = true := by cases o <;> rfl
theorem stps_noL : ∀ (os : List Stp), noLs (os.map Stp.d) = true
  | [] => rfl
  | o :: os => by
    show noLs (o.d :: os.map Stp.d) = true
    unfold noLs
    rw [stp_noL o, stps_noL os] <;> rfl
theorem getD_stp {os : List Stp} {i : Nat} (hi : i < os.length) : ∃ o ∈ os, (os.map Stp.d).getD i .none = o.d := by
  refine ⟨os[i], List.getElem_mem hi, ?_⟩
  simp [List.getD_eq_getElem?_getD, hi]
def spInit (K : PySem.W.Frag) : Sp := fun vs H Q _ => ∃ (p dx : Addr) (v : V) (os : List Stp), vs = [.ref p, v] ∧ H p = some (.ins (He.ga K "Script") dx []) ∧ (Dp K H v (.tuple (os.map Stp.d)) ∨ Dp K H v (.list (os.map Stp.d))) ∧ 1 ≤ os.length ∧ os.length ≤ 8 ∧
  (∀ o ∈ os, StpOk os.length o) ∧ ∀ H' tv, (∀ a o, a ≠ p → H a = some o → H' a = some o) → H' p = some (.ins (He.ga K "Script") dx [("steps", tv)]) → Dp K H' tv (.tuple (os.map Stp.d)) → Q .non H'
section
variable {P : Program} {w : World} {K : PySem.W.Frag} {mg : Str → Option Value} {base : Heap} (T : Txt w K mg)
include T
theorem scr_init : ∃ fd, FnOk P w K mg base CX0 4 (He.ma K (He.ga K "Script") "__init__") fd ["self", "steps"] (spInit K) ∧ Binds K fd ["self", "steps"] [] := by
  obtain ⟨fd, hF⟩ := hC_Script_init T
  refine ⟨fd, hF.ok (k := 3) (N := ["self", "steps", "number", "one"]) ⟨rfl, rfl, rfl, by decide +kernel, rfl, by decide +kernel, by decide +kernel⟩ (fun vs H Q E h => ?_) (fun cdv A outer s H vs Q E hr h => ?_), hF.bindsN fun _ _ _ _ _ _ us hl => match us, hl with | [_, _], _ => rfl⟩
  · obtain ⟨_, _, _, _, rfl, _⟩ := h
    rfl
  · obtain ⟨p, dx, v1_, os, rfl, hp, hv, hl1, hl8, hok, hq⟩ := h
    have key : DSs (bodyY P w K mg base ["self", "steps", "number", "one"] "Script.__init__" (defScope sC_Script_init) (He.ma K (He.ga K "Script") "__init__") cdv A outer s H E) { nx := fun _ H' => Q .non H', rt := Q } (start ["self", "steps", "number", "one"] [.ref p, v1_]) H (defBody sC_Script_init) := by
      have F : Fm P w K mg base 3 (bodyY P w K mg base ["self", "steps", "number", "one"] "Script.__init__" (defScope sC_Script_init) (He.ma K (He.ga K "Script") "__init__") cdv A outer s H E) := ⟨fun _ => rfl, fun _ => rfl, fun _ => rfl, fun _ => rfl, fun _ => rfl, fun _ => rfl, fun _ => hr, fun _ => by
        show (["self", "steps", "number", "one"] : List Str).Nodup
        decide +kernel⟩
      have ln : (os.map Stp.d).length = os.length := List.length_map _
      have b1 : decide ((1 : Int) ≤ ((os.map Stp.d).length : Nat)) = true := by
        rw [ln]
        exact decide_eq_true (by omega)
      have b2 : decide ((((os.map Stp.d).length : Nat) : Int) ≤ 8) = true := by
        rw [ln]
        exact decide_eq_true (by omega)
      have step : ∀ (i : Nat) (H'' : Hp) (v2_ v3_ : V), i < os.length → Same H H'' → Dp K H'' v3_ ((os.map Stp.d).getD i .none) → (∀ (ps : Pos), DE (bodyY P w K mg base ["self", "steps", "number", "one"] "Script.__init__" (defScope sC_Script_init) (He.ma K (He.ga K "Script") "__init__") cdv A outer s H E) K [some (.ref p), some v1_, some v2_, some v3_] H'' (.Name "steps" ps) (.tuple (os.map Stp.d)) ∨
          DE (bodyY P w K mg base ["self", "steps", "number", "one"] "Script.__init__" (defScope sC_Script_init) (He.ma K (He.ga K "Script") "__init__") cdv A outer s H E) K [some (.ref p), some v1_, some v2_, some v3_] H'' (.Name "steps" ps) (.list (os.map Stp.d))) → ∀ p1 p2 p3 p4 p5 p6 p7, DT (bodyY P w K mg base ["self", "steps", "number", "one"] "Script.__init__" (defScope sC_Script_init) (He.ma K (He.ga K "Script") "__init__") cdv A outer s H E) [some (.ref p), some v1_, some v2_, some v3_] H'' (.UnaryOp .Not (.Call (.Name "is_step" p1) [.Name "one" p2, .Call (.Name "len" p3) [.Name "steps" p4] [] p5] [] p6) p7) false := by
        intro i H'' v2_ v3_ hi e h3 hs p1 p2 p3 p4 p5 p6 p7
        obtain ⟨o, ho, e3⟩ := getD_stp hi
        rw [e3] at h3
        have q := hok o ho
        rw [← ln] at q
        rcases hs p4 with h | h
        · exact DT.is (dt_not (dt_e (de_f F (f_is_step T) (xa_d (de_v 3 h3) (xa_d (de_len F (n_len T) h (.inl rfl)) xa_nil)) ⟨_, _, rfl, q, rfl⟩))) rfl
        · exact DT.is (dt_not (dt_e (de_f F (f_is_step T) (xa_d (de_v 3 h3) (xa_d (de_len F (n_len T) h (.inr rfl)) xa_nil)) ⟨_, _, rfl, q, rfl⟩))) rfl
      have fin : ∀ (H1 H2 : Hp) (tv : V), Same H H1 → Same H1 H2 → Dp K H2 tv (.tuple (os.map Stp.d)) → Q .non (upd H2 p (.ins (He.ga K "Script") dx [("steps", tv)])) := by
        intro H1 H2 tv e1 e2 ht
        have hp2 := e2 _ _ (e1 _ _ hp)
        refine hq _ tv (fun a o hne ho => ?_) upd_same (dp_upT ⟨fun a xs q => ?_, fun a o u q => ?_⟩ _ _ (by unfold noL; exact stps_noL os) ht)
        · rw [upd_ne hne]
          exact e2 _ _ (e1 _ _ ho)
        · rw [upd_ne (ne_of q hp2 (by intro z; cases z))]
          exact q
        · rw [upd_ne (ne_of q hp2 (by intro z; cases z))]
          exact q
      rcases hv with h1 | h1
      · refine ds_guard (DT.is (dt_w (dw_or (dt_not (dt_e (de_isi2 .list .tuple F (n_isinstance T) (n_list T) (n_tuple T) (de_v 1 h1)))) fun _ => (dw_one_or (dt_not (dt_chain de_int (de_len F (n_len T) (de_v 1 h1) (.inl rfl)) (de_g F (g_MOST_STEPS T)) cm_le cm_le))))) (by rw [b1, b2] <;> rfl)) fun H3 e3 => ?_
        replace h1 := dp_up (up_of e3) _ _ h1
        refine ds_for F (se_enumT F (n_enumerate T) (de_v 1 h1)) (tb_tup F (gn_cons F 2 (gn_cons F 3 gn_nil))) (fs := fun i => [.int (i : Nat), (os.map Stp.d).getD i .none]) (fun i hi => ⟨rfl, rfl⟩) fun Hl el => ?_
        refine ⟨fun i σ' H' => ∃ b c, Same Hl H' ∧ σ' = [some (.ref p), some v1_, b, c], ⟨none, none, Same.refl _, rfl⟩, fun i σ' H' h => by
          obtain ⟨_, _, h, _⟩ := h
          exact up_of h, fun i σ' H' H'' vs hi h e2 hl hd => ?_, fun σ' H' h => ?_⟩
        · obtain ⟨b, c, e1, rfl⟩ := h
          obtain ⟨v2_, v3_, rfl, h2, h3⟩ := dpa2 hd
          have e4 : Same H H'' := (e3.trans el).trans (e1.trans e2)
          have h1' := dp_up (up_of (el.trans (e1.trans e2))) _ _ h1
          refine ds_guard (step i H'' v2_ v3_ (by rw [ln] at hi; exact hi) e4 h3 (fun ps => .inl (de_v 1 h1')) _ _ _ _ _ _ _) fun H5 e5 => ?_
          exact ds_nil ⟨_, _, (e1.trans e2).trans e5, rfl⟩
        · obtain ⟨b, c, e1, rfl⟩ := h
          have h1' := dp_up (up_of (el.trans e1)) _ _ h1
          have hp' := e1 _ _ (el _ _ (e3 _ _ hp))
          refine ds_fld (j := 0) F (de_tupleOf F (n_tuple T) (de_v 1 h1') (.inl rfl)) (c_Script T) (a_Script T) rfl hp' (by decide) fun v H5 e5 h5 => ds_nil ?_
          exact fin _ _ v ((e3.trans el).trans e1) e5 h5
      · refine ds_guard (DT.is (dt_w (dw_or (dt_not (dt_e (de_isi2 .list .tuple F (n_isinstance T) (n_list T) (n_tuple T) (de_v 1 h1)))) fun _ => (dw_one_or (dt_not (dt_chain de_int (de_len F (n_len T) (de_v 1 h1) (.inr rfl)) (de_g F (g_MOST_STEPS T)) cm_le cm_le))))) (by rw [b1, b2] <;> rfl)) fun H3 e3 => ?_
        replace h1 := dp_up (up_of e3) _ _ h1
        refine ds_for F (se_enumL F (n_enumerate T) (de_v 1 h1)) (tb_tup F (gn_cons F 2 (gn_cons F 3 gn_nil))) (fs := fun i => [.int (i : Nat), (os.map Stp.d).getD i .none]) (fun i hi => ⟨rfl, rfl⟩) fun Hl el => ?_
        refine ⟨fun i σ' H' => ∃ b c, Same Hl H' ∧ σ' = [some (.ref p), some v1_, b, c], ⟨none, none, Same.refl _, rfl⟩, fun i σ' H' h => by
          obtain ⟨_, _, h, _⟩ := h
          exact up_of h, fun i σ' H' H'' vs hi h e2 hl hd => ?_, fun σ' H' h => ?_⟩
        · obtain ⟨b, c, e1, rfl⟩ := h
          obtain ⟨v2_, v3_, rfl, h2, h3⟩ := dpa2 hd
          have e4 : Same H H'' := (e3.trans el).trans (e1.trans e2)
          have h1' := dp_up (up_of (el.trans (e1.trans e2))) _ _ h1
          refine ds_guard (step i H'' v2_ v3_ (by rw [ln] at hi; exact hi) e4 h3 (fun ps => .inr (de_v 1 h1')) _ _ _ _ _ _ _) fun H5 e5 => ?_
          exact ds_nil ⟨_, _, (e1.trans e2).trans e5, rfl⟩
        · obtain ⟨b, c, e1, rfl⟩ := h
          have h1' := dp_up (up_of (el.trans e1)) _ _ h1
          have hp' := e1 _ _ (el _ _ (e3 _ _ hp))
          refine ds_fld (j := 0) F (de_tupleOf F (n_tuple T) (de_v 1 h1') (.inr rfl)) (c_Script T) (a_Script T) rfl hp' (by decide) fun v H5 e5 h5 => ds_nil ?_
          exact fin _ _ v ((e3.trans el).trans e1) e5 h5
    obtain ⟨t, ht, h⟩ := key
    exact ⟨t, (ht ()).nox, h⟩
end
section
variable {ι : Type} {Y : ι → Cx} {P : Program} {w : World} {K : PySem.W.Frag} {mg : Str → Option Value} {base : Heap} {k : Nat} {σ : L2.St} {H : Hp} {e : Expr} {pos p : Pos} (T : Txt w K mg)
include T
/-- Script(e), e a tuple or list of right steps -/
theorem xe_script {os : List Stp} {d : PyData} (F : Fm P w K mg base k Y) (ha : DE Y K σ H e d) (hd : d = .tuple (os.map Stp.d) ∨ d = .list (os.map Stp.d)) (h1 : 1 ≤ os.length) (h8 : os.length ≤ 8) (hok : ∀ o ∈ os, StpOk os.length o) (hk : 5 ≤ k := by decide) (hg : ∀ i, Gl (Y i) "Script" := by intro _; rfl)
    (he : ∀ i, starEach [e] (Y i).env = (false, eval e (Y i).env) :: starEach [] (Y i).env := by intro _; rfl) (hpl : ∀ i, (backTo pos (starEach [] (Y i).env)).any (·.1) = false := by intro _; rfl) : XE Y K σ H (.Call (.Name "Script" p) [e] [] pos) (.scr (os.map Stp.d)) := by
  obtain ⟨fd, G, bd⟩ := scr_init (P := P) (base := base) T
  refine er_make F (k_Script T) G bd (m_Script T) (xa_d ha xa_nil he) (fun vs H1 q dx u hv hq hdx hne Q hQ => ?_) hk hg (by decide) he hpl
  obtain ⟨v, rfl, hv1⟩ := vxs1 hv
  have eS : Same H1 (upd (upd H1 dx (.own q)) q (.ins (He.ga K "Script") dx [])) := fun a o ho => by
    rw [upd_ne (ne_of_none ho hq), upd_ne (ne_of_none ho hdx)]
    exact ho
  refine ⟨q, dx, v, os, rfl, upd_same, ?_, h1, h8, hok, fun H' tv hS hp ht => hQ H' (fun a o ho => hS a o (ne_of_none ho hq) (eS a o ho)) ⟨q, dx, tv, rfl, hp, ht⟩⟩
  have hv2 : Dp K H1 v d := hv1
  rcases hd with rfl | rfl
  · exact .inl (dp_up (up_of eS) _ _ hv2)
  · exact .inr (dp_up (up_of eS) _ _ hv2)
end
end PK
namespace PK
open L2 PySem PySem.Spec PyProof.Rows
/-! ## the law's own defs -/
/-- a copy of a thing that is not there matches nothing by tag or stamp -/
def CpW (s : Str) (c : Cp) : Prop := ∀ x l t n, c = some (x, l, t, n) → isThere s = false → x ≠ 1 ∧ t ≠ 1
theorem CpW.of {s : Str} {c : Cp} (h : CpOk s c) : CpW s c := by
  intro x l t n e hs
  subst e
  rcases h with ⟨rfl, _⟩ | ⟨rfl, h | h⟩ | ⟨rfl, _⟩
  · exact absurd hs (by decide)
  · cases h
    exact ⟨by decide, by decide⟩
  · cases h
    exact ⟨by decide, by decide⟩
  · exact absurd hs (by decide)
theorem eqv_some {t : Int × Int × Int × Int} : (cpD (some t)).eqv (PyData.tuple []) = false := rfl
theorem eqv_none : (cpD none).eqv (PyData.tuple []) = true := rfl
def kindD : Stp → Str
  | .read _ _ _ _ _ _ => "read"
  | .put _ _ _ _ _ => "put"
  | .take _ _ _ _ _ => "take"
  | .forget _ => "forget"
  | .fin _ => "end"
theorem kind_end (o : Stp) : (!decide (kindD o = "end")) = !endB o := by cases o <;> rfl
theorem kind_req (o : Stp) : (!memS (kindD o) [.str "end", .str "forget"]) = isReq o := by cases o <;> rfl
theorem kind_wr (o : Stp) : memS (kindD o) [.str "put", .str "take"] = isWr o := by cases o <;> rfl
section
variable {P : Program} {w : World} {K : PySem.W.Frag} {mg : Str → Option Value} {base : Heap} (T : Txt w K mg)
include T
def pre_law_act_of (xs : List Dx) (r : PyData) : Prop := ∃ (o : Stp), xs = [.d (o.d)] ∧ (True) ∧ r = .str (actOf o)
theorem f_law_act_of : FnC P w K mg base 1 "_law_act_of" (Spf K pre_law_act_of) := by
  refine fnC_pure (N := ["_law_one"]) (ps := ["_law_one"]) (h_law_act_of T) (m_law_act_of T) ⟨rfl, rfl, rfl, by decide +kernel, rfl, by decide +kernel, by decide +kernel⟩ (fun _ _ _ _ _ _ us hl => match us, hl with | [_], _ => rfl) (fun xs r h => by
    obtain ⟨_, rfl, _⟩ := h
    rfl) ?_
  intro Y cdv A outer s_ H vs xs r Q E hY F hv hp hq
  subst hY
  obtain ⟨o, rfl, hc, rfl⟩ := hp
  obtain ⟨v0_, rfl, h0⟩ := vxs1 hv
  show DSs _ _ [some v0_] _ _
  (rcases o with ⟨k, a, b, c1, d, e⟩ | ⟨k, z, a, b, c1⟩ | ⟨k, a, b, c1, d⟩ | n | w_) <;> (
    exact ds_ret (de_if (dt_cmp (de_ixT F (de_v 0 h0) de_int) de_str (by first | exact cm_eqs | exact cm_eqi | exact cm_eqb | exact cm_eqD F (by first | rfl | exact shaped_cp _ | exact shaped_lt _) (by first | rfl | exact shaped_cp _))) (fun hb1 => (by first | exact (de_ixT F (de_v 0 h0) de_int) | exact (show DE _ _ _ _ _ (.str "") from (by first | exact Bool.noConfusion (show true = false from hb1) | exact Bool.noConfusion (show false = true from hb1))))) fun hb1 => de_str) hq (by first | rfl | (simp_all [bif_str]; done)))
def pre_law_next_step (xs : List Dx) (r : PyData) : Prop := ∃ (o : Stp) (x : Str), xs = [.d (o.d), .d (.str x)] ∧ (AnsOk o x) ∧ r = .int (nextD o x)
theorem f_law_next_step : FnC P w K mg base 1 "_law_next_step" (Spf K pre_law_next_step) := by
  refine fnC_pure (N := ["_law_one", "_law_answer", "_law_words", "_law_some"]) (ps := ["_law_one", "_law_answer"]) (h_law_next_step T) (m_law_next_step T) ⟨rfl, rfl, rfl, by decide +kernel, rfl, by decide +kernel, by decide +kernel⟩ (fun _ _ _ _ _ _ us hl => match us, hl with | [_, _], _ => rfl) (fun xs r h => by
    obtain ⟨_, _, rfl, _⟩ := h
    rfl) ?_
  intro Y cdv A outer s_ H vs xs r Q E hY F hv hp hq
  subst hY
  obtain ⟨o, x, rfl, hc, rfl⟩ := hp
  obtain ⟨v0_, v1_, rfl, h0, h1⟩ := vxs2 hv
  show DSs _ _ [some v0_, some v1_, _, _] _ _
  (rcases o with ⟨k, a, b, c, d, e⟩ | ⟨k, z, a, b, c⟩ | ⟨k, a, b, c, d⟩ | n | w_ <;> (first | exact hc.elim | skip); rcases hc with rfl | rfl | rfl | rfl | rfl; rotate_left 5; rcases hc with rfl | rfl | rfl; rotate_left 3; rcases hc with rfl | rfl | rfl | rfl) <;> (
    refine ds_set (F := F) 2 (er_disp (K := K) (pd_cons (de_lst (K := K) (xa_d de_str (xa_d de_str (xa_d de_str (xa_d de_str (xa_d de_str xa_nil)))))) (pd_cons (de_lst (K := K) (xa_d de_str (xa_d de_str (xa_d de_str xa_nil)))) pd_nil))) fun v2_ H1 e1 h2 => ?_
    replace h0 := dp_up (up_of e1) _ _ h0
    replace h1 := dp_up (up_of e1) _ _ h1
    replace hq := hq.up e1
    show DSs _ _ [some v0_, some v1_, some v2_, _] _ _
    refine ds_set (F := F) 3 (by first | exact de_dv_get (some 0) F (dv_v 2 h2) (de_ixT F (de_v 0 h0) de_int) (de_lst (K := K) (xa_d de_str (xa_d de_str (xa_d de_str (xa_d de_str xa_nil))))) (fun ws hl => match ws, hl with | [_, _], _ => rfl) (.inr ⟨0, rfl, rfl⟩) | exact de_dv_get (some 1) F (dv_v 2 h2) (de_ixT F (de_v 0 h0) de_int) (de_lst (K := K) (xa_d de_str (xa_d de_str (xa_d de_str (xa_d de_str xa_nil))))) (fun ws hl => match ws, hl with | [_, _], _ => rfl) (.inr ⟨1, rfl, rfl⟩) | exact de_dv_get none F (dv_v 2 h2) (de_ixT F (de_v 0 h0) de_int) (de_lst (K := K) (xa_d de_str (xa_d de_str (xa_d de_str (xa_d de_str xa_nil))))) (fun ws hl => match ws, hl with | [_, _], _ => rfl) (.inl ⟨rfl, rfl⟩)) fun v3_ H2 e2 h3 => ?_
    replace h0 := dp_up (up_of e2) _ _ h0
    replace h1 := dp_up (up_of e2) _ _ h1
    replace h2 := DV.up h2 (up_of e2) (by decide)
    replace hq := hq.up e2
    show DSs _ _ [some v0_, some v1_, some v2_, some v3_] _ _
    exact ds_ret (de_ixT F (de_v 0 h0) (de_add (de_sub (de_len F (n_len T) (de_v 0 h0) (by first | exact .inl rfl | exact .inr rfl)) (de_len F (n_len T) (de_v 3 h3) (.inr rfl))) (by first | exact de_indexL (zs := ["got", "mine", "unchanged", "absent", "lost"]) (j := 0) F (de_v 3 h3) (de_v 1 h1) rfl (by decide) | exact de_indexL (zs := ["got", "mine", "unchanged", "absent", "lost"]) (j := 1) F (de_v 3 h3) (de_v 1 h1) rfl (by decide) | exact de_indexL (zs := ["got", "mine", "unchanged", "absent", "lost"]) (j := 2) F (de_v 3 h3) (de_v 1 h1) rfl (by decide) | exact de_indexL (zs := ["got", "mine", "unchanged", "absent", "lost"]) (j := 3) F (de_v 3 h3) (de_v 1 h1) rfl (by decide) | exact de_indexL (zs := ["got", "mine", "unchanged", "absent", "lost"]) (j := 4) F (de_v 3 h3) (de_v 1 h1) rfl (by decide) | exact de_indexL (zs := ["yes", "no", "lost"]) (j := 0) F (de_v 3 h3) (de_v 1 h1) rfl (by decide) | exact de_indexL (zs := ["yes", "no", "lost"]) (j := 1) F (de_v 3 h3) (de_v 1 h1) rfl (by decide) | exact de_indexL (zs := ["yes", "no", "lost"]) (j := 2) F (de_v 3 h3) (de_v 1 h1) rfl (by decide) | exact de_indexL (zs := ["yes", "no", "absent", "lost"]) (j := 0) F (de_v 3 h3) (de_v 1 h1) rfl (by decide) | exact de_indexL (zs := ["yes", "no", "absent", "lost"]) (j := 1) F (de_v 3 h3) (de_v 1 h1) rfl (by decide) | exact de_indexL (zs := ["yes", "no", "absent", "lost"]) (j := 2) F (de_v 3 h3) (de_v 1 h1) rfl (by decide) | exact de_indexL (zs := ["yes", "no", "absent", "lost"]) (j := 3) F (de_v 3 h3) (de_v 1 h1) rfl (by decide)))) hq (by rfl))
def pre_law_copy_on (xs : List Dx) (r : PyData) : Prop := ∃ (s : Str) (c : Cp) (x : Str), xs = [.d (.str s), .d (cpD c), .d (.str x)] ∧ (True) ∧ r = cpD (copyAfter s c x)
theorem f_law_copy_on : FnC P w K mg base 1 "_law_copy_on" (Spf K pre_law_copy_on) := by
  refine fnC_pure (N := ["_law_server", "_law_copy", "_law_act", "_law_look"]) (ps := ["_law_server", "_law_copy", "_law_act"]) (h_law_copy_on T) (m_law_copy_on T) ⟨rfl, rfl, rfl, by decide +kernel, rfl, by decide +kernel, by decide +kernel⟩ (fun _ _ _ _ _ _ us hl => match us, hl with | [_, _, _], _ => rfl) (fun xs r h => by
    obtain ⟨_, _, _, rfl, _⟩ := h
    rfl) ?_
  intro Y cdv A outer s_ H vs xs r Q E hY F hv hp hq
  subst hY
  obtain ⟨s, c, x, rfl, hc, rfl⟩ := hp
  obtain ⟨v0_, v1_, v2_, rfl, h0, h1, h2⟩ := vxs3 hv
  show DSs _ _ [some v0_, some v1_, some v2_, _] _ _
  (rcases c with _ | ⟨a, l, t, n⟩) <;> (
    refine ds_if (dt_w (dw_or (dt_cmp (de_v 1 h1) (de_tup xa_nil) (by first | exact cm_eqs | exact cm_eqi | exact cm_eqb | exact cm_eqD F (by first | rfl | exact shaped_cp _ | exact shaped_lt _) (by first | rfl | exact shaped_cp _))) fun hb2 => (dw_one_or (dt_cmp (de_v 2 h2) de_str (by first | exact cm_eqs | exact cm_eqi | exact cm_eqb | exact cm_eqD F (by first | rfl | exact shaped_cp _ | exact shaped_lt _) (by first | rfl | exact shaped_cp _)))))) (fun hb1 H1 e1 => ?_) (fun hb1 H1 e1 => ?_)
    · try first | exact Bool.noConfusion (show false = true from hb1) | exact absurd hb1 (by decide)
      all_goals
        (replace h0 := dp_up (up_of e1) _ _ h0
         replace h1 := dp_up (up_of e1) _ _ h1
         replace h2 := dp_up (up_of e1) _ _ h2
         replace hq := hq.up e1
         exact ds_ret (de_catT F (de_slT F (de_v 1 h1) oe_none (oe_some (K := K) de_int)) (de_rep01 F (de_tup (xa_d de_int xa_nil)) (de_intb F (n_int T) (de_cmp (de_v 1 h1) (de_tup xa_nil) (by first | exact cm_nes | exact cm_nei | exact cm_neD F (by first | rfl | exact shaped_cp _ | exact shaped_lt _) (by first | rfl | exact shaped_cp _)))) (by first | exact .inl rfl | exact .inr rfl))) hq (by first | rfl | (obtain rfl : x = "tick" := of_decide_eq_true (show decide (x = "tick") = true from hb1); rfl)))
    · try first | exact Bool.noConfusion (show true = false from hb1) | exact absurd hb1 (by decide)
      all_goals
        (replace h0 := dp_up (up_of e1) _ _ h0
         replace h1 := dp_up (up_of e1) _ _ h1
         replace h2 := dp_up (up_of e1) _ _ h2
         replace hq := hq.up e1
         refine ds_if (dt_cmp (de_v 2 h2) de_str (by first | exact cm_eqs | exact cm_eqi | exact cm_eqb | exact cm_eqD F (by first | rfl | exact shaped_cp _ | exact shaped_lt _) (by first | rfl | exact shaped_cp _))) (fun hb3 H3 e3 => ?_) (fun hb3 H3 e3 => ?_)
         · try first | exact Bool.noConfusion (show false = true from hb3) | exact absurd hb3 (by decide)
           all_goals
             (replace h0 := dp_up (up_of e3) _ _ h0
              replace h1 := dp_up (up_of e3) _ _ h1
              replace h2 := dp_up (up_of e3) _ _ h2
              replace hq := hq.up e3
              exact ds_ret (de_tup (xa_d de_int (xa_d de_int (xa_d de_int (xa_d (de_ixT F (de_v 1 h1) de_int) xa_nil))))) hq (by first | rfl | (simp_all (config := { decide := true }) [copyAfter, cpD, unD, cutD, isThere, bif_int]; done)))
         · try first | exact Bool.noConfusion (show true = false from hb3) | exact absurd hb3 (by decide)
           all_goals
             (replace h0 := dp_up (up_of e3) _ _ h0
              replace h1 := dp_up (up_of e3) _ _ h1
              replace h2 := dp_up (up_of e3) _ _ h2
              replace hq := hq.up e3
              refine ds_set (F := F) 3 (de_if (dt_w (dw_and (dt_cmp (de_v 2 h2) de_str (by first | exact cm_eqs | exact cm_eqi | exact cm_eqb | exact cm_eqD F (by first | rfl | exact shaped_cp _ | exact shaped_lt _) (by first | rfl | exact shaped_cp _))) fun hb6 => (dw_one_and (dt_cmp (de_v 0 h0) (de_tup (xa_d de_str (xa_d de_str xa_nil))) (by first | exact cm_inS F | exact cm_inS F (by assumption) | exact cm_inD F (by first | rfl | exact shaped_cp _) (by first | rfl | assumption)))))) (fun hb5 => (de_ixT F (de_v 1 h1) de_int)) fun hb5 => de_int) fun v3_ H4 e4 h3 => ?_
              replace h0 := dp_up (up_of e4) _ _ h0
              replace h1 := dp_up (up_of e4) _ _ h1
              replace h2 := dp_up (up_of e4) _ _ h2
              replace hq := hq.up e4
              show DSs _ _ [some v0_, some v1_, some v2_, some v3_] _ _
              exact ds_ret (de_tup (xa_d de_int (xa_d (de_v 3 h3) (xa_d (de_ixT F (de_v 1 h1) de_int) (xa_d (de_ixT F (de_v 1 h1) de_int) xa_nil))))) hq (by first | rfl | (simp_all (config := { decide := true }) [copyAfter, cpD, unD, cutD, isThere, bif_int]; done)))))
def pre_law_passes (xs : List Dx) (r : PyData) : Prop := ∃ (s : Str) (c : Cp) (o : Stp), xs = [.d (.str s), .d (cpD c), .d (o.d)] ∧ (ConOk o ∧ isReq o = true ∧ CpW s c) ∧ r = .str (ansTo o s c)
theorem f_law_passes : FnC P w K mg base 1 "_law_passes" (Spf K pre_law_passes) := by
  refine fnC_pure (N := ["_law_server", "_law_copy", "_law_one", "_law_is_here", "_law_word", "_law_is_same"]) (ps := ["_law_server", "_law_copy", "_law_one"]) (h_law_passes T) (m_law_passes T) ⟨rfl, rfl, rfl, by decide +kernel, rfl, by decide +kernel, by decide +kernel⟩ (fun _ _ _ _ _ _ us hl => match us, hl with | [_, _, _], _ => rfl) (fun xs r h => by
    obtain ⟨_, _, _, rfl, _⟩ := h
    rfl) ?_
  intro Y cdv A outer s_ H vs xs r Q E hY F hv hp hq
  subst hY
  obtain ⟨s, c, o, rfl, hc, rfl⟩ := hp
  obtain ⟨v0_, v1_, v2_, rfl, h0, h1, h2⟩ := vxs3 hv
  obtain ⟨hk, hreq, hcp⟩ := hc
  show DSs _ _ [some v0_, some v1_, some v2_, _, _, _] _ _
  (rcases c with _ | ⟨x, l, t, n⟩; rotate_left; have hw := fun h => hcp x l t n rfl h; rotate_left; all_goals (rcases o with ⟨k, a, b, c1, d, e⟩ | ⟨k, z, a, b, c1⟩ | ⟨k, a, b, c1, d⟩ | m | w_; rcases hk with rfl | rfl | rfl | rfl; rotate_left 4; rcases hk with ⟨rfl | rfl | rfl | rfl | rfl, hz'⟩; rotate_left 5; rcases hk with rfl | rfl | rfl | rfl; rotate_left 4; exact Bool.noConfusion (show false = true from hreq); exact Bool.noConfusion (show false = true from hreq))) <;> (
    refine ds_par (jx := 3) (jy := 4) F (DE.toX (DE.is (de_cmp (de_v 0 h0) (de_tup (xa_d de_str (xa_d de_str xa_nil))) (by first | exact cm_inS F | exact cm_inS F (by assumption) | exact cm_inD F (by first | rfl | exact shaped_cp _) (by first | rfl | assumption))) (show _ = PyData.bool (isThere s) from rfl))) (DE.toX (de_ixT F (de_v 2 h2) de_int)) fun v3_ v4_ H1 e1 h3 h4 => ?_
    replace h0 := dp_up (up_of e1) _ _ h0
    replace h1 := dp_up (up_of e1) _ _ h1
    replace h2 := dp_up (up_of e1) _ _ h2
    replace hq := hq.up e1
    show DSs _ _ [some v0_, some v1_, some v2_, some v3_, some v4_, _] _ _
    refine ds_if (dt_cmp (de_ixT F (de_v 2 h2) de_int) de_str (by first | exact cm_eqs | exact cm_eqi | exact cm_eqb | exact cm_eqD F (by first | rfl | exact shaped_cp _ | exact shaped_lt _) (by first | rfl | exact shaped_cp _))) (fun hb2 H2 e2 => ?_) (fun hb2 H2 e2 => ?_)
    · try first | exact Bool.noConfusion (show false = true from hb2) | exact absurd hb2 (by decide)
      all_goals
        (replace h0 := dp_up (up_of e2) _ _ h0
         replace h1 := dp_up (up_of e2) _ _ h1
         replace h2 := dp_up (up_of e2) _ _ h2
         replace h3 := dp_up (up_of e2) _ _ h3
         replace h4 := dp_up (up_of e2) _ _ h4
         replace hq := hq.up e2
         refine ds_if (dt_not (dt_e (de_v 3 h3))) (fun hb3 H3 e3 => ?_) (fun hb3 H3 e3 => ?_)
         · try first | exact Bool.noConfusion (show false = true from hb3) | exact absurd hb3 (by decide)
           all_goals
             (replace h0 := dp_up (up_of e3) _ _ h0
              replace h1 := dp_up (up_of e3) _ _ h1
              replace h2 := dp_up (up_of e3) _ _ h2
              replace h3 := dp_up (up_of e3) _ _ h3
              replace h4 := dp_up (up_of e3) _ _ h4
              replace hq := hq.up e3
              exact ds_ret de_str hq (by first | rfl | (cases hz : isThere s <;> simp_all (config := { decide := true }) [ansTo, readBy, putBy, takeBy, doesHold, isLeftOut, inPlaces, matchesC, memS, unD, bif_str, eqv_some, eqv_none]; done)))
         · try first | exact Bool.noConfusion (show true = false from hb3) | exact absurd hb3 (by decide)
           all_goals
             (replace h0 := dp_up (up_of e3) _ _ h0
              replace h1 := dp_up (up_of e3) _ _ h1
              replace h2 := dp_up (up_of e3) _ _ h2
              replace h3 := dp_up (up_of e3) _ _ h3
              replace h4 := dp_up (up_of e3) _ _ h4
              replace hq := hq.up e3
              refine ds_set (F := F) 5 (de_and (de_cmp (de_v 4 h4) de_str (by first | exact cm_nes | exact cm_nei | exact cm_neD F (by first | rfl | exact shaped_cp _ | exact shaped_lt _) (by first | rfl | exact shaped_cp _))) fun hb5 => (de_and (de_cmp (de_v 1 h1) (de_tup xa_nil) (by first | exact cm_nes | exact cm_nei | exact cm_neD F (by first | rfl | exact shaped_cp _ | exact shaped_lt _) (by first | rfl | exact shaped_cp _))) fun hb6 => (de_one (by first | exact (de_cmp (de_ixT F (de_v 1 h1) (by first | exact de_indexL (zs := ["tag", "look", "stamp"]) (j := 0) F (de_lst (K := K) (xa_d de_str (xa_d de_str (xa_d de_str xa_nil)))) (de_v 4 h4) rfl (by decide) | exact de_indexL (zs := ["tag", "look", "stamp"]) (j := 1) F (de_lst (K := K) (xa_d de_str (xa_d de_str (xa_d de_str xa_nil)))) (de_v 4 h4) rfl (by decide) | exact de_indexL (zs := ["tag", "look", "stamp"]) (j := 2) F (de_lst (K := K) (xa_d de_str (xa_d de_str (xa_d de_str xa_nil)))) (de_v 4 h4) rfl (by decide))) de_int (by first | exact cm_eqs | exact cm_eqi | exact cm_eqb | exact cm_eqD F (by first | rfl | exact shaped_cp _ | exact shaped_lt _) (by first | rfl | exact shaped_cp _))) | exact (show DE _ _ _ _ _ (.bool false) from (by first | exact Bool.noConfusion (show true = false from hb6) | exact Bool.noConfusion (show false = true from hb6) | exact Bool.noConfusion (show true = false from hb5) | exact Bool.noConfusion (show false = true from hb5))))))) fun v5_ H4 e4 h5 => ?_
              replace h0 := dp_up (up_of e4) _ _ h0
              replace h1 := dp_up (up_of e4) _ _ h1
              replace h2 := dp_up (up_of e4) _ _ h2
              replace h3 := dp_up (up_of e4) _ _ h3
              replace h4 := dp_up (up_of e4) _ _ h4
              replace hq := hq.up e4
              show DSs _ _ [some v0_, some v1_, some v2_, some v3_, some v4_, some v5_] _ _
              exact ds_ret (de_if (dt_e (de_v 5 h5)) (fun hb7 => de_str) fun hb7 => de_str) hq (by first | rfl | (cases hz : isThere s <;> simp_all (config := { decide := true }) [ansTo, readBy, putBy, takeBy, doesHold, isLeftOut, inPlaces, matchesC, memS, unD, bif_str, eqv_some, eqv_none]; done))))
    · try first | exact Bool.noConfusion (show true = false from hb2) | exact absurd hb2 (by decide)
      all_goals
        (replace h0 := dp_up (up_of e2) _ _ h0
         replace h1 := dp_up (up_of e2) _ _ h1
         replace h2 := dp_up (up_of e2) _ _ h2
         replace h3 := dp_up (up_of e2) _ _ h3
         replace h4 := dp_up (up_of e2) _ _ h4
         replace hq := hq.up e2
         refine ds_if (dt_cmp (de_v 4 h4) (de_tup (xa_d de_str (xa_d de_str xa_nil))) (by first | exact cm_inS F | exact cm_inS F (by assumption) | exact cm_inD F (by first | rfl | exact shaped_cp _) (by first | rfl | assumption))) (fun hb8 H8 e8 => ?_) (fun hb8 H8 e8 => ?_)
         · try first | exact Bool.noConfusion (show false = true from hb8) | exact absurd hb8 (by decide)
           all_goals
             (replace h0 := dp_up (up_of e8) _ _ h0
              replace h1 := dp_up (up_of e8) _ _ h1
              replace h2 := dp_up (up_of e8) _ _ h2
              replace h3 := dp_up (up_of e8) _ _ h3
              replace h4 := dp_up (up_of e8) _ _ h4
              replace hq := hq.up e8
              exact ds_ret (de_if (dt_cmp (de_v 3 h3) (de_cmp (de_v 4 h4) de_str (by first | exact cm_eqs | exact cm_eqi | exact cm_eqb | exact cm_eqD F (by first | rfl | exact shaped_cp _ | exact shaped_lt _) (by first | rfl | exact shaped_cp _))) (by first | exact cm_eqs | exact cm_eqi | exact cm_eqb | exact cm_eqD F (by first | rfl | exact shaped_cp _ | exact shaped_lt _) (by first | rfl | exact shaped_cp _))) (fun hb9 => de_str) fun hb9 => de_str) hq (by first | rfl | (cases hz : isThere s <;> simp_all (config := { decide := true }) [ansTo, readBy, putBy, takeBy, doesHold, isLeftOut, inPlaces, matchesC, memS, unD, bif_str, eqv_some, eqv_none]; done)))
         · try first | exact Bool.noConfusion (show true = false from hb8) | exact absurd hb8 (by decide)
           all_goals
             (replace h0 := dp_up (up_of e8) _ _ h0
              replace h1 := dp_up (up_of e8) _ _ h1
              replace h2 := dp_up (up_of e8) _ _ h2
              replace h3 := dp_up (up_of e8) _ _ h3
              replace h4 := dp_up (up_of e8) _ _ h4
              replace hq := hq.up e8
              refine ds_if (dt_w (dw_or (dt_cmp (de_v 4 h4) de_str (by first | exact cm_eqs | exact cm_eqi | exact cm_eqb | exact cm_eqD F (by first | rfl | exact shaped_cp _ | exact shaped_lt _) (by first | rfl | exact shaped_cp _))) fun hb11 => (dw_one_or (dt_cmp (de_v 1 h1) (de_tup xa_nil) (by first | exact cm_eqs | exact cm_eqi | exact cm_eqb | exact cm_eqD F (by first | rfl | exact shaped_cp _ | exact shaped_lt _) (by first | rfl | exact shaped_cp _)))))) (fun hb10 H10 e10 => ?_) (fun hb10 H10 e10 => ?_)
              · try first | exact Bool.noConfusion (show false = true from hb10) | exact absurd hb10 (by decide)
                all_goals
                  (replace h0 := dp_up (up_of e10) _ _ h0
                   replace h1 := dp_up (up_of e10) _ _ h1
                   replace h2 := dp_up (up_of e10) _ _ h2
                   replace h3 := dp_up (up_of e10) _ _ h3
                   replace h4 := dp_up (up_of e10) _ _ h4
                   replace hq := hq.up e10
                   exact ds_ret (de_if (dt_w (dw_and (dt_cmp (de_ixT F (de_v 2 h2) de_int) de_str (by first | exact cm_eqs | exact cm_eqi | exact cm_eqb | exact cm_eqD F (by first | rfl | exact shaped_cp _ | exact shaped_lt _) (by first | rfl | exact shaped_cp _))) fun hb13 => (dw_one_and (dt_not (dt_e (de_v 3 h3)))))) (fun hb12 => de_str) fun hb12 => de_str) hq (by first | rfl | (cases hz : isThere s <;> simp_all (config := { decide := true }) [ansTo, readBy, putBy, takeBy, doesHold, isLeftOut, inPlaces, matchesC, memS, unD, bif_str, eqv_some, eqv_none]; done)))
              · try first | exact Bool.noConfusion (show true = false from hb10) | exact absurd hb10 (by decide)
                all_goals
                  (replace h0 := dp_up (up_of e10) _ _ h0
                   replace h1 := dp_up (up_of e10) _ _ h1
                   replace h2 := dp_up (up_of e10) _ _ h2
                   replace h3 := dp_up (up_of e10) _ _ h3
                   replace h4 := dp_up (up_of e10) _ _ h4
                   replace hq := hq.up e10
                   exact ds_ret (de_if (dt_cmp (by first | exact (de_ixT F (de_v 1 h1) (by first | exact de_dv_at F (er_disp (K := K) (pd_cons de_int (pd_cons de_int pd_nil))) (de_v 4 h4) 0 (fun ws hl => match ws, hl with | [_, _], _ => rfl) rfl | exact de_dv_at F (er_disp (K := K) (pd_cons de_int (pd_cons de_int pd_nil))) (de_v 4 h4) 1 (fun ws hl => match ws, hl with | [_, _], _ => rfl) rfl)) | exact (de_int (i := 0))) de_int (by first | exact cm_eqs | exact cm_eqi | exact cm_eqb | exact cm_eqD F (by first | rfl | exact shaped_cp _ | exact shaped_lt _) (by first | rfl | exact shaped_cp _))) (fun hb14 => de_str) fun hb14 => de_str) hq (by first | rfl | (cases hz : isThere s <;> simp_all (config := { decide := true }) [ansTo, readBy, putBy, takeBy, doesHold, isLeftOut, inPlaces, matchesC, memS, unD, bif_str, eqv_some, eqv_none]; done))))))
end
end PK
namespace PK
open L2 PySem PySem.Spec PyProof.Rows
structure ActOk (s : StD) (x : Str) (own : Bool) : Prop where
  ax : x = "great" ∨ x = "small" ∨ x = "take" ∨ (x = "tick" ∧ own = false)
  tk : x = "take" → isThere s.srv = true ∨ s.srv = "gone"
  dn : s.dn ≤ 2
theorem sv_take {s : Str} (h : isThere s = true ∨ s = "gone") : PyData.str "gone" = PyData.str (serverAfter s "take") := by
  unfold serverAfter
  rcases h with h | rfl
  · rw [if_pos rfl, if_pos h]
  · rfl
theorem sv_tick {s : Str} : (bif decide (s = "fresh") then PyData.str "there" else PyData.str s) = PyData.str (serverAfter s "tick") := by
  unfold serverAfter
  rw [if_neg (by decide), if_pos rfl, bif_str]
  simp
theorem mn0 {n : Int} (h : n ≤ 2) : PyData.int (if n + 0 < 2 then n + 0 else 2) = PyData.int n := by
  congr 1
  split <;> omega
section
variable {P : Program} {w : World} {K : PySem.W.Frag} {mg : Str → Option Value} {base : Heap} (T : Txt w K mg)
include T
def pre_law_writes (xs : List Dx) (r : PyData) : Prop := ∃ (s : Str) (c : Cp) (o : Stp), xs = [.d (.str s), .d (cpD c), .d (o.d)] ∧ (ConOk o ∧ CpW s c) ∧ r = .bool (isDoneBy o s c)
theorem f_law_writes : FnC P w K mg base 2 "_law_writes" (Spf K pre_law_writes) := by
  refine fnC_pure (N := ["_law_server", "_law_copy", "_law_one"]) (ps := ["_law_server", "_law_copy", "_law_one"]) (h_law_writes T) (m_law_writes T) ⟨rfl, rfl, rfl, by decide +kernel, rfl, by decide +kernel, by decide +kernel⟩ (fun _ _ _ _ _ _ us hl => match us, hl with | [_, _, _], _ => rfl) (fun xs r h => by
    obtain ⟨_, _, _, rfl, _⟩ := h
    rfl) ?_
  intro Y cdv A outer s_ H vs xs r Q E hY F hv hp hq
  subst hY
  obtain ⟨s, c, o, rfl, hc, rfl⟩ := hp
  obtain ⟨v0_, v1_, v2_, rfl, h0, h1, h2⟩ := vxs3 hv
  show DSs _ _ [some v0_, some v1_, some v2_] _ _
  (rcases o with ⟨k, a, b, c1, d, e⟩ | ⟨k, z, a, b, c1⟩ | ⟨k, a, b, c1, d⟩ | m | w_) <;> (
    exact ds_ret (de_and (de_cmp (de_ixT F (de_v 2 h2) de_int) (de_tup (xa_d de_str (xa_d de_str xa_nil))) (by first | exact cm_inS F | exact cm_inS F (by assumption) | exact cm_inD F (by first | rfl | exact shaped_cp _) (by first | rfl | assumption))) fun hb1 => (de_one (by first | exact (de_cmp (de_f F (f_law_passes T) (xa_d (de_v 0 h0) (xa_d (de_v 1 h1) (xa_d (de_v 2 h2) xa_nil))) ⟨_, _, _, rfl, ⟨hc.1, rfl, hc.2⟩, rfl⟩) de_str (by first | exact cm_eqs | exact cm_eqi | exact cm_eqb | exact cm_eqD F (by first | rfl | exact shaped_cp _ | exact shaped_lt _) (by first | rfl | exact shaped_cp _))) | exact (show DE _ _ _ _ _ (.bool false) from (by first | exact Bool.noConfusion (show true = false from hb1) | exact Bool.noConfusion (show false = true from hb1)))))) hq (by rfl))
def pre_law_may (xs : List Dx) (r : PyData) : Prop := ∃ (ss : List PyData) (s : StD) (o : Stp) (e : Str) (ot : List Str) (n : Str), xs = [.d (.tuple ss), .d (s.d), .d (.str e), .d (.tuple (ot.map .str)), .d (.str n)] ∧ (EvOk e ∧ At ss s.num o ∧ CpW s.srv s.cp) ∧ r = .bool (canHappen o s e ot n)
theorem f_law_may : FnC P w K mg base 3 "_law_may" (Spf K pre_law_may) := by
  refine fnC_pure (N := ["_law_steps", "_law_state", "_law_event", "_law_others", "_law_net", "_law_kind", "_law_server", "_law_at", "_law_copy", "_law_known", "_law_own", "_law_done", "_law_late"]) (ps := ["_law_steps", "_law_state", "_law_event", "_law_others", "_law_net"]) (h_law_may T) (m_law_may T) ⟨rfl, rfl, rfl, by decide +kernel, rfl, by decide +kernel, by decide +kernel⟩ (fun _ _ _ _ _ _ us hl => match us, hl with | [_, _, _, _, _], _ => rfl) (fun xs r h => by
    obtain ⟨_, _, _, _, _, _, rfl, _⟩ := h
    rfl) ?_
  intro Y cdv A outer s_ H vs xs r Q E hY F hv hp hq
  subst hY
  obtain ⟨ss, s, o, e, ot, n, rfl, hc, rfl⟩ := hp
  obtain ⟨v0_, v1_, v2_, v3_, v4_, rfl, h0, h1, h2, h3, h4⟩ := vxs5 hv
  show DSs _ _ [some v0_, some v1_, some v2_, some v3_, some v4_, _, _, _, _, _, _, _, _] _ _
  (obtain ⟨he, hat, hcp⟩ := hc; have hz := strs_some ot; rcases he with rfl | rfl | rfl | rfl | rfl | rfl | rfl | rfl) <;> (
    refine ds_unp F (de_v 1 h1) (gn_cons F 6 (gn_cons F 7 (gn_cons F 8 (gn_cons F 9 (gn_cons F 10 (gn_cons F 11 (gn_cons F 12 gn_nil))))))) fun us1 H1 e1 hu1 => ?_
    replace h0 := dp_up (up_of e1) _ _ h0
    replace h1 := dp_up (up_of e1) _ _ h1
    replace h2 := dp_up (up_of e1) _ _ h2
    replace h3 := dp_up (up_of e1) _ _ h3
    replace h4 := dp_up (up_of e1) _ _ h4
    replace hq := hq.up e1
    obtain ⟨v6_, v7_, v8_, v9_, v10_, v11_, v12_, rfl, h6, h7, h8, h9, h10, h11, h12⟩ := dpa7 hu1
    show DSs _ _ [some v0_, some v1_, some v2_, some v3_, some v4_, _, some v6_, some v7_, some v8_, some v9_, some v10_, some v11_, some v12_] _ _
    refine ds_set (F := F) 5 (show DE _ _ _ _ _ (.str (kindD o)) from by rcases o with ⟨k, a, b, c1, d, e⟩ | ⟨k, z, a, b, c1⟩ | ⟨k, a, b, c1, d⟩ | m | w_ <;> exact de_ixT F (de_ixT F (de_v 0 h0) (de_v 7 h7) hat.1) de_int) fun v5_ H2 e2 h5 => ?_
    replace h0 := dp_up (up_of e2) _ _ h0
    replace h1 := dp_up (up_of e2) _ _ h1
    replace h2 := dp_up (up_of e2) _ _ h2
    replace h3 := dp_up (up_of e2) _ _ h3
    replace h4 := dp_up (up_of e2) _ _ h4
    replace h6 := dp_up (up_of e2) _ _ h6
    replace h7 := dp_up (up_of e2) _ _ h7
    replace h8 := dp_up (up_of e2) _ _ h8
    replace h9 := dp_up (up_of e2) _ _ h9
    replace h10 := dp_up (up_of e2) _ _ h10
    replace h11 := dp_up (up_of e2) _ _ h11
    replace h12 := dp_up (up_of e2) _ _ h12
    replace hq := hq.up e2
    show DSs _ _ [some v0_, some v1_, some v2_, some v3_, some v4_, some v5_, some v6_, some v7_, some v8_, some v9_, some v10_, some v11_, some v12_] _ _
    refine ds_if (dt_cmp (de_v 2 h2) (de_tup (xa_d de_str (xa_d de_str (xa_d de_str xa_nil)))) (by first | exact cm_inS F | exact cm_inS F (by assumption) | exact cm_inD F (by first | rfl | exact shaped_cp _) (by first | rfl | assumption))) (fun hb3 H3 e3 => ?_) (fun hb3 H3 e3 => ?_)
    · try first | exact Bool.noConfusion (show false = true from hb3) | exact absurd hb3 (by decide)
      all_goals
        (replace h0 := dp_up (up_of e3) _ _ h0
         replace h1 := dp_up (up_of e3) _ _ h1
         replace h2 := dp_up (up_of e3) _ _ h2
         replace h3 := dp_up (up_of e3) _ _ h3
         replace h4 := dp_up (up_of e3) _ _ h4
         replace h5 := dp_up (up_of e3) _ _ h5
         replace h6 := dp_up (up_of e3) _ _ h6
         replace h7 := dp_up (up_of e3) _ _ h7
         replace h8 := dp_up (up_of e3) _ _ h8
         replace h9 := dp_up (up_of e3) _ _ h9
         replace h10 := dp_up (up_of e3) _ _ h10
         replace h11 := dp_up (up_of e3) _ _ h11
         replace h12 := dp_up (up_of e3) _ _ h12
         replace hq := hq.up e3
         exact ds_ret (de_and (de_cmp (de_v 2 h2) (de_v 3 h3) (by first | exact cm_inS F | exact cm_inS F (by assumption) | exact cm_inD F (by first | rfl | exact shaped_cp _) (by first | rfl | assumption))) fun hb4 => (de_one (de_or (de_cmp (de_v 2 h2) de_str (by first | exact cm_eqs | exact cm_eqi | exact cm_eqb | exact cm_eqD F (by first | rfl | exact shaped_cp _ | exact shaped_lt _) (by first | rfl | exact shaped_cp _))) fun hb5 => (de_one (de_cmp (de_v 6 h6) (de_tup (xa_d de_str (xa_d de_str xa_nil))) (by first | exact cm_inS F | exact cm_inS F (by assumption) | exact cm_inD F (by first | rfl | exact shaped_cp _) (by first | rfl | assumption))))))) hq (by first | rfl | (by_cases hn : n = "sure" <;> simp (config := { decide := true }) [canHappen, memS, unD, lt_ne, hn]; done)))
    · try first | exact Bool.noConfusion (show true = false from hb3) | exact absurd hb3 (by decide)
      all_goals
        (replace h0 := dp_up (up_of e3) _ _ h0
         replace h1 := dp_up (up_of e3) _ _ h1
         replace h2 := dp_up (up_of e3) _ _ h2
         replace h3 := dp_up (up_of e3) _ _ h3
         replace h4 := dp_up (up_of e3) _ _ h4
         replace h5 := dp_up (up_of e3) _ _ h5
         replace h6 := dp_up (up_of e3) _ _ h6
         replace h7 := dp_up (up_of e3) _ _ h7
         replace h8 := dp_up (up_of e3) _ _ h8
         replace h9 := dp_up (up_of e3) _ _ h9
         replace h10 := dp_up (up_of e3) _ _ h10
         replace h11 := dp_up (up_of e3) _ _ h11
         replace h12 := dp_up (up_of e3) _ _ h12
         replace hq := hq.up e3
         refine ds_if (dt_cmp (de_v 2 h2) (de_tup (xa_d de_str (xa_d de_str xa_nil))) (by first | exact cm_inS F | exact cm_inS F (by assumption) | exact cm_inD F (by first | rfl | exact shaped_cp _) (by first | rfl | assumption))) (fun hb6 H6 e6 => ?_) (fun hb6 H6 e6 => ?_)
         · try first | exact Bool.noConfusion (show false = true from hb6) | exact absurd hb6 (by decide)
           all_goals
             (replace h0 := dp_up (up_of e6) _ _ h0
              replace h1 := dp_up (up_of e6) _ _ h1
              replace h2 := dp_up (up_of e6) _ _ h2
              replace h3 := dp_up (up_of e6) _ _ h3
              replace h4 := dp_up (up_of e6) _ _ h4
              replace h5 := dp_up (up_of e6) _ _ h5
              replace h6 := dp_up (up_of e6) _ _ h6
              replace h7 := dp_up (up_of e6) _ _ h7
              replace h8 := dp_up (up_of e6) _ _ h8
              replace h9 := dp_up (up_of e6) _ _ h9
              replace h10 := dp_up (up_of e6) _ _ h10
              replace h11 := dp_up (up_of e6) _ _ h11
              replace h12 := dp_up (up_of e6) _ _ h12
              replace hq := hq.up e6
              exact ds_ret (de_or (de_cmp (de_v 2 h2) de_str (by first | exact cm_eqs | exact cm_eqi | exact cm_eqb | exact cm_eqD F (by first | rfl | exact shaped_cp _ | exact shaped_lt _) (by first | rfl | exact shaped_cp _))) fun hb7 => (de_one (DE.is (de_cmp (de_v 5 h5) de_str (by first | exact cm_nes | exact cm_nei | exact cm_neD F (by first | rfl | exact shaped_cp _ | exact shaped_lt _) (by first | rfl | exact shaped_cp _))) (congrArg PyData.bool (kind_end o))))) hq (by first | rfl | (by_cases hn : n = "sure" <;> simp (config := { decide := true }) [canHappen, memS, unD, lt_ne, hn]; done)))
         · try first | exact Bool.noConfusion (show true = false from hb6) | exact absurd hb6 (by decide)
           all_goals
             (replace h0 := dp_up (up_of e6) _ _ h0
              replace h1 := dp_up (up_of e6) _ _ h1
              replace h2 := dp_up (up_of e6) _ _ h2
              replace h3 := dp_up (up_of e6) _ _ h3
              replace h4 := dp_up (up_of e6) _ _ h4
              replace h5 := dp_up (up_of e6) _ _ h5
              replace h6 := dp_up (up_of e6) _ _ h6
              replace h7 := dp_up (up_of e6) _ _ h7
              replace h8 := dp_up (up_of e6) _ _ h8
              replace h9 := dp_up (up_of e6) _ _ h9
              replace h10 := dp_up (up_of e6) _ _ h10
              replace h11 := dp_up (up_of e6) _ _ h11
              replace h12 := dp_up (up_of e6) _ _ h12
              replace hq := hq.up e6
              refine ds_if (dt_cmp (de_v 2 h2) de_str (by first | exact cm_eqs | exact cm_eqi | exact cm_eqb | exact cm_eqD F (by first | rfl | exact shaped_cp _ | exact shaped_lt _) (by first | rfl | exact shaped_cp _))) (fun hb8 H8 e8 => ?_) (fun hb8 H8 e8 => ?_)
              · try first | exact Bool.noConfusion (show false = true from hb8) | exact absurd hb8 (by decide)
                all_goals
                  (replace h0 := dp_up (up_of e8) _ _ h0
                   replace h1 := dp_up (up_of e8) _ _ h1
                   replace h2 := dp_up (up_of e8) _ _ h2
                   replace h3 := dp_up (up_of e8) _ _ h3
                   replace h4 := dp_up (up_of e8) _ _ h4
                   replace h5 := dp_up (up_of e8) _ _ h5
                   replace h6 := dp_up (up_of e8) _ _ h6
                   replace h7 := dp_up (up_of e8) _ _ h7
                   replace h8 := dp_up (up_of e8) _ _ h8
                   replace h9 := dp_up (up_of e8) _ _ h9
                   replace h10 := dp_up (up_of e8) _ _ h10
                   replace h11 := dp_up (up_of e8) _ _ h11
                   replace h12 := dp_up (up_of e8) _ _ h12
                   replace hq := hq.up e8
                   exact ds_ret (de_and (de_cmp (de_v 4 h4) de_str (by first | exact cm_nes | exact cm_nei | exact cm_neD F (by first | rfl | exact shaped_cp _ | exact shaped_lt _) (by first | rfl | exact shaped_cp _))) fun hb9 => (de_one (de_f F (f_law_writes T) (xa_d (de_v 6 h6) (xa_d (de_v 8 h8) (xa_d (de_ixT F (de_v 0 h0) (de_v 7 h7) (hat.1)) xa_nil))) ⟨_, _, _, rfl, ⟨hat.2, hcp⟩, rfl⟩))) hq (by first | rfl | (by_cases hn : n = "sure" <;> simp (config := { decide := true }) [canHappen, memS, unD, lt_ne, hn]; done)))
              · try first | exact Bool.noConfusion (show true = false from hb8) | exact absurd hb8 (by decide)
                all_goals
                  (replace h0 := dp_up (up_of e8) _ _ h0
                   replace h1 := dp_up (up_of e8) _ _ h1
                   replace h2 := dp_up (up_of e8) _ _ h2
                   replace h3 := dp_up (up_of e8) _ _ h3
                   replace h4 := dp_up (up_of e8) _ _ h4
                   replace h5 := dp_up (up_of e8) _ _ h5
                   replace h6 := dp_up (up_of e8) _ _ h6
                   replace h7 := dp_up (up_of e8) _ _ h7
                   replace h8 := dp_up (up_of e8) _ _ h8
                   replace h9 := dp_up (up_of e8) _ _ h9
                   replace h10 := dp_up (up_of e8) _ _ h10
                   replace h11 := dp_up (up_of e8) _ _ h11
                   replace h12 := dp_up (up_of e8) _ _ h12
                   replace hq := hq.up e8
                   refine ds_if (dt_cmp (de_v 2 h2) de_str (by first | exact cm_eqs | exact cm_eqi | exact cm_eqb | exact cm_eqD F (by first | rfl | exact shaped_cp _ | exact shaped_lt _) (by first | rfl | exact shaped_cp _))) (fun hb10 H10 e10 => ?_) (fun hb10 H10 e10 => ?_)
                   · try first | exact Bool.noConfusion (show false = true from hb10) | exact absurd hb10 (by decide)
                     all_goals
                       (replace h0 := dp_up (up_of e10) _ _ h0
                        replace h1 := dp_up (up_of e10) _ _ h1
                        replace h2 := dp_up (up_of e10) _ _ h2
                        replace h3 := dp_up (up_of e10) _ _ h3
                        replace h4 := dp_up (up_of e10) _ _ h4
                        replace h5 := dp_up (up_of e10) _ _ h5
                        replace h6 := dp_up (up_of e10) _ _ h6
                        replace h7 := dp_up (up_of e10) _ _ h7
                        replace h8 := dp_up (up_of e10) _ _ h8
                        replace h9 := dp_up (up_of e10) _ _ h9
                        replace h10 := dp_up (up_of e10) _ _ h10
                        replace h11 := dp_up (up_of e10) _ _ h11
                        replace h12 := dp_up (up_of e10) _ _ h12
                        replace hq := hq.up e10
                        exact ds_ret (de_and (de_cmp (de_v 4 h4) de_str (by first | exact cm_nes | exact cm_nei | exact cm_neD F (by first | rfl | exact shaped_cp _ | exact shaped_lt _) (by first | rfl | exact shaped_cp _))) fun hb11 => (de_one (DE.is (de_cmp (de_v 5 h5) (de_tup (xa_d de_str (xa_d de_str xa_nil))) (by first | exact cm_niS F | exact cm_niS F (by assumption))) (congrArg PyData.bool (kind_req o))))) hq (by first | rfl | (by_cases hn : n = "sure" <;> simp (config := { decide := true }) [canHappen, memS, unD, lt_ne, hn]; done)))
                   · try first | exact Bool.noConfusion (show true = false from hb10) | exact absurd hb10 (by decide)
                     all_goals
                       (replace h0 := dp_up (up_of e10) _ _ h0
                        replace h1 := dp_up (up_of e10) _ _ h1
                        replace h2 := dp_up (up_of e10) _ _ h2
                        replace h3 := dp_up (up_of e10) _ _ h3
                        replace h4 := dp_up (up_of e10) _ _ h4
                        replace h5 := dp_up (up_of e10) _ _ h5
                        replace h6 := dp_up (up_of e10) _ _ h6
                        replace h7 := dp_up (up_of e10) _ _ h7
                        replace h8 := dp_up (up_of e10) _ _ h8
                        replace h9 := dp_up (up_of e10) _ _ h9
                        replace h10 := dp_up (up_of e10) _ _ h10
                        replace h11 := dp_up (up_of e10) _ _ h11
                        replace h12 := dp_up (up_of e10) _ _ h12
                        replace hq := hq.up e10
                        exact ds_ret (de_and (de_cmp (de_v 4 h4) (de_tup (xa_d de_str (xa_d de_str xa_nil))) (by first | exact cm_inS F | exact cm_inS F (by assumption) | exact cm_inD F (by first | rfl | exact shaped_cp _) (by first | rfl | assumption))) fun hb12 => (de_one (de_cmp (de_v 12 h12) (de_tup xa_nil) (by first | exact cm_nes | exact cm_nei | exact cm_neD F (by first | rfl | exact shaped_cp _ | exact shaped_lt _) (by first | rfl | exact shaped_cp _))))) hq (by first | rfl | (by_cases hn : n = "sure" <;> simp (config := { decide := true }) [canHappen, memS, unD, lt_ne, hn]; done)))))))
def pre_law_behind_act (xs : List Dx) (r : PyData) : Prop := ∃ (s : StD) (x : Str) (own : Bool), xs = [.d (s.d), .d (.str x), .d (.bool own)] ∧ (ActOk s x own) ∧ r = (bif decide (x = "tick") then ticked s else acted s x own).d
theorem f_law_behind_act : FnC P w K mg base 2 "_law_behind_act" (Spf K pre_law_behind_act) := by
  refine fnC_pure (N := ["_law_state", "_law_act", "_law_is_own", "_law_words", "_law_copy", "_law_server", "_law_at", "_law_known", "_law_own", "_law_done", "_law_late"]) (ps := ["_law_state", "_law_act", "_law_is_own"]) (h_law_behind_act T) (m_law_behind_act T) ⟨rfl, rfl, rfl, by decide +kernel, rfl, by decide +kernel, by decide +kernel⟩ (fun _ _ _ _ _ _ us hl => match us, hl with | [_, _, _], _ => rfl) (fun xs r h => by
    obtain ⟨_, _, _, rfl, _⟩ := h
    rfl) ?_
  intro Y cdv A outer s_ H vs xs r Q E hY F hv hp hq
  subst hY
  obtain ⟨s, x, own, rfl, hc, rfl⟩ := hp
  obtain ⟨v0_, v1_, v2_, rfl, h0, h1, h2⟩ := vxs3 hv
  show DSs _ _ [some v0_, some v1_, some v2_, _, _, _, _, _, _, _, _] _ _
  (obtain ⟨hx, htk, hdn⟩ := hc; rcases s with ⟨srv, num, cp, kn, ow, dn, _ | ⟨n, c, m⟩⟩ <;> cases own) <;> (
    refine ds_unp F (de_v 0 h0) (gn_cons F 5 (gn_cons F 6 (gn_cons F 4 (gn_cons F 7 (gn_cons F 8 (gn_cons F 9 (gn_cons F 10 gn_nil))))))) fun us1 H1 e1 hu1 => ?_
    replace h0 := dp_up (up_of e1) _ _ h0
    replace h1 := dp_up (up_of e1) _ _ h1
    replace h2 := dp_up (up_of e1) _ _ h2
    replace hq := hq.up e1
    obtain ⟨v5_, v6_, v4_, v7_, v8_, v9_, v10_, rfl, h5, h6, h4, h7, h8, h9, h10⟩ := dpa7 hu1
    show DSs _ _ [some v0_, some v1_, some v2_, _, some v4_, some v5_, some v6_, some v7_, some v8_, some v9_, some v10_] _ _
    refine ds_set (F := F) 3 (er_disp (K := K) (pd_cons de_str (pd_cons (de_if (dt_cmp (de_v 5 h5) de_str (by first | exact cm_eqs | exact cm_eqi | exact cm_eqb | exact cm_eqD F (by first | rfl | exact shaped_cp _ | exact shaped_lt _) (by first | rfl | exact shaped_cp _))) (fun hb3 => de_str) fun hb3 => (de_v 5 h5)) pd_nil))) fun v3_ H2 e2 h3 => ?_
    replace h0 := dp_up (up_of e2) _ _ h0
    replace h1 := dp_up (up_of e2) _ _ h1
    replace h2 := dp_up (up_of e2) _ _ h2
    replace h4 := dp_up (up_of e2) _ _ h4
    replace h5 := dp_up (up_of e2) _ _ h5
    replace h6 := dp_up (up_of e2) _ _ h6
    replace h7 := dp_up (up_of e2) _ _ h7
    replace h8 := dp_up (up_of e2) _ _ h8
    replace h9 := dp_up (up_of e2) _ _ h9
    replace h10 := dp_up (up_of e2) _ _ h10
    replace hq := hq.up e2
    show DSs _ _ [some v0_, some v1_, some v2_, some v3_, some v4_, some v5_, some v6_, some v7_, some v8_, some v9_, some v10_] _ _
    refine ds_if (dt_cmp (de_v 10 h10) (de_tup xa_nil) (by first | exact cm_nes | exact cm_nei | exact cm_neD F (by first | rfl | exact shaped_cp _ | exact shaped_lt _) (by first | rfl | exact shaped_cp _))) (fun hb4 H4 e4 => ?_) (fun hb4 H4 e4 => ?_)
    · try first | exact Bool.noConfusion (show false = true from hb4) | exact absurd hb4 (by decide)
      all_goals
        (replace h0 := dp_up (up_of e4) _ _ h0
         replace h1 := dp_up (up_of e4) _ _ h1
         replace h2 := dp_up (up_of e4) _ _ h2
         replace h3 := DV.up h3 (up_of e4) (by decide)
         replace h4 := dp_up (up_of e4) _ _ h4
         replace h5 := dp_up (up_of e4) _ _ h5
         replace h6 := dp_up (up_of e4) _ _ h6
         replace h7 := dp_up (up_of e4) _ _ h7
         replace h8 := dp_up (up_of e4) _ _ h8
         replace h9 := dp_up (up_of e4) _ _ h9
         replace h10 := dp_up (up_of e4) _ _ h10
         replace hq := hq.up e4
         refine ds_set (F := F) 10 (de_tup (xa_d (de_ixT F (de_v 10 h10) de_int) (xa_d (de_f F (f_law_copy_on T) (xa_d (de_v 5 h5) (xa_d (de_ixT F (de_v 10 h10) de_int) (xa_d (de_v 1 h1) xa_nil))) ⟨_, _, _, rfl, by first | trivial | assumption | omega | decide | simp_all, rfl⟩) (xa_d (de_if (dt_w (dw_or (dt_e (de_v 2 h2)) fun hb7 => (dw_one_or (dt_cmp (de_v 1 h1) de_str (by first | exact cm_eqs | exact cm_eqi | exact cm_eqb | exact cm_eqD F (by first | rfl | exact shaped_cp _ | exact shaped_lt _) (by first | rfl | exact shaped_cp _)))))) (fun hb6 => (de_ixT F (de_v 10 h10) de_int)) fun hb6 => de_int) xa_nil)))) fun v10_ H5 e5 h10 => ?_
         replace h0 := dp_up (up_of e5) _ _ h0
         replace h1 := dp_up (up_of e5) _ _ h1
         replace h2 := dp_up (up_of e5) _ _ h2
         replace h3 := DV.up h3 (up_of e5) (by decide)
         replace h4 := dp_up (up_of e5) _ _ h4
         replace h5 := dp_up (up_of e5) _ _ h5
         replace h6 := dp_up (up_of e5) _ _ h6
         replace h7 := dp_up (up_of e5) _ _ h7
         replace h8 := dp_up (up_of e5) _ _ h8
         replace h9 := dp_up (up_of e5) _ _ h9
         replace hq := hq.up e5
         show DSs _ _ [some v0_, some v1_, some v2_, some v3_, some v4_, some v5_, some v6_, some v7_, some v8_, some v9_, some v10_] _ _
         refine ds_nil ?_
         show DSs _ _ _ _ _
         refine ds_set (F := F) 4 (de_f F (f_law_copy_on T) (xa_d (de_v 5 h5) (xa_d (de_v 4 h4) (xa_d (de_v 1 h1) xa_nil))) ⟨_, _, _, rfl, by first | trivial | assumption | omega | decide | simp_all, rfl⟩) fun v4_ H8 e8 h4 => ?_
         replace h0 := dp_up (up_of e8) _ _ h0
         replace h1 := dp_up (up_of e8) _ _ h1
         replace h2 := dp_up (up_of e8) _ _ h2
         replace h3 := DV.up h3 (up_of e8) (by decide)
         replace h5 := dp_up (up_of e8) _ _ h5
         replace h6 := dp_up (up_of e8) _ _ h6
         replace h7 := dp_up (up_of e8) _ _ h7
         replace h8 := dp_up (up_of e8) _ _ h8
         replace h9 := dp_up (up_of e8) _ _ h9
         replace h10 := dp_up (up_of e8) _ _ h10
         replace hq := hq.up e8
         show DSs _ _ [some v0_, some v1_, some v2_, some v3_, some v4_, some v5_, some v6_, some v7_, some v8_, some v9_, some v10_] _ _
         refine ds_if (dt_cmp (de_v 1 h1) de_str (by first | exact cm_nes | exact cm_nei | exact cm_neD F (by first | rfl | exact shaped_cp _ | exact shaped_lt _) (by first | rfl | exact shaped_cp _))) (fun hb9 H9 e9 => ?_) (fun hb9 H9 e9 => ?_)
         · try first | exact Bool.noConfusion (show false = true from hb9) | exact absurd hb9 (by decide)
           all_goals
             (replace h0 := dp_up (up_of e9) _ _ h0
              replace h1 := dp_up (up_of e9) _ _ h1
              replace h2 := dp_up (up_of e9) _ _ h2
              replace h3 := DV.up h3 (up_of e9) (by decide)
              replace h4 := dp_up (up_of e9) _ _ h4
              replace h5 := dp_up (up_of e9) _ _ h5
              replace h6 := dp_up (up_of e9) _ _ h6
              replace h7 := dp_up (up_of e9) _ _ h7
              replace h8 := dp_up (up_of e9) _ _ h8
              replace h9 := dp_up (up_of e9) _ _ h9
              replace h10 := dp_up (up_of e9) _ _ h10
              replace hq := hq.up e9
              refine ds_par3 (jx := 7) (jy := 8) (jz := 9) F (DE.toX de_int) (DE.toX (de_intb F (n_int T) (de_v 2 h2))) (DE.toX (by first | exact DE.is (de_min2 F (n_min T) de_int (de_add (de_v 9 h9) (de_intb F (n_int T) (de_v 2 h2)))) (mn0 hdn) | exact (de_min2 F (n_min T) de_int (de_add (de_v 9 h9) (de_intb F (n_int T) (de_v 2 h2)))))) fun v7_ v8_ v9_ H10 e10 h7 h8 h9 => ?_
              replace h0 := dp_up (up_of e10) _ _ h0
              replace h1 := dp_up (up_of e10) _ _ h1
              replace h2 := dp_up (up_of e10) _ _ h2
              replace h3 := DV.up h3 (up_of e10) (by decide)
              replace h4 := dp_up (up_of e10) _ _ h4
              replace h5 := dp_up (up_of e10) _ _ h5
              replace h6 := dp_up (up_of e10) _ _ h6
              replace h10 := dp_up (up_of e10) _ _ h10
              replace hq := hq.up e10
              show DSs _ _ [some v0_, some v1_, some v2_, some v3_, some v4_, some v5_, some v6_, some v7_, some v8_, some v9_, some v10_] _ _
              refine ds_nil ?_
              show DSs _ _ _ _ _
              exact ds_ret (de_tup (xa_d (show DE _ _ _ _ _ (.str (serverAfter srv x)) from by rcases hx with rfl | rfl | rfl | ⟨rfl, _⟩; exact de_dv_get none F (dv_v 3 h3) (de_v 1 h1) de_str (fun ws hl => match ws, hl with | [_, _], _ => rfl) (.inl ⟨rfl, rfl⟩); exact de_dv_get none F (dv_v 3 h3) (de_v 1 h1) de_str (fun ws hl => match ws, hl with | [_, _], _ => rfl) (.inl ⟨rfl, rfl⟩); exact DE.is (de_dv_get (some 0) F (dv_v 3 h3) (de_v 1 h1) de_str (fun ws hl => match ws, hl with | [_, _], _ => rfl) (.inr ⟨0, rfl, rfl⟩)) (sv_take (htk rfl)); exact DE.is (de_dv_get (some 1) F (dv_v 3 h3) (de_v 1 h1) de_str (fun ws hl => match ws, hl with | [_, _], _ => rfl) (.inr ⟨1, rfl, rfl⟩)) sv_tick) (xa_d (de_v 6 h6) (xa_d (de_v 4 h4) (xa_d (de_v 7 h7) (xa_d (de_v 8 h8) (xa_d (de_v 9 h9) (xa_d (de_v 10 h10) xa_nil)))))))) hq (by by_cases hd : x = "tick"; (subst hd; first | rfl | exact Bool.noConfusion (show false = true from hb9) | exact Bool.noConfusion hx.2); (rw [decide_eq_false hd]; first | rfl | (rw [decide_eq_false hd] at hb9; exact Bool.noConfusion (show true = false from hb9)))))
         · try first | exact Bool.noConfusion (show true = false from hb9) | exact absurd hb9 (by decide)
           all_goals
             (replace h0 := dp_up (up_of e9) _ _ h0
              replace h1 := dp_up (up_of e9) _ _ h1
              replace h2 := dp_up (up_of e9) _ _ h2
              replace h3 := DV.up h3 (up_of e9) (by decide)
              replace h4 := dp_up (up_of e9) _ _ h4
              replace h5 := dp_up (up_of e9) _ _ h5
              replace h6 := dp_up (up_of e9) _ _ h6
              replace h7 := dp_up (up_of e9) _ _ h7
              replace h8 := dp_up (up_of e9) _ _ h8
              replace h9 := dp_up (up_of e9) _ _ h9
              replace h10 := dp_up (up_of e9) _ _ h10
              replace hq := hq.up e9
              exact ds_ret (de_tup (xa_d (show DE _ _ _ _ _ (.str (serverAfter srv x)) from by rcases hx with rfl | rfl | rfl | ⟨rfl, _⟩; exact de_dv_get none F (dv_v 3 h3) (de_v 1 h1) de_str (fun ws hl => match ws, hl with | [_, _], _ => rfl) (.inl ⟨rfl, rfl⟩); exact de_dv_get none F (dv_v 3 h3) (de_v 1 h1) de_str (fun ws hl => match ws, hl with | [_, _], _ => rfl) (.inl ⟨rfl, rfl⟩); exact DE.is (de_dv_get (some 0) F (dv_v 3 h3) (de_v 1 h1) de_str (fun ws hl => match ws, hl with | [_, _], _ => rfl) (.inr ⟨0, rfl, rfl⟩)) (sv_take (htk rfl)); exact DE.is (de_dv_get (some 1) F (dv_v 3 h3) (de_v 1 h1) de_str (fun ws hl => match ws, hl with | [_, _], _ => rfl) (.inr ⟨1, rfl, rfl⟩)) sv_tick) (xa_d (de_v 6 h6) (xa_d (de_v 4 h4) (xa_d (de_v 7 h7) (xa_d (de_v 8 h8) (xa_d (de_v 9 h9) (xa_d (de_v 10 h10) xa_nil)))))))) hq (by by_cases hd : x = "tick"; (subst hd; first | rfl | exact Bool.noConfusion (show false = true from hb9) | exact Bool.noConfusion hx.2); (rw [decide_eq_false hd]; first | rfl | (rw [decide_eq_false hd] at hb9; exact Bool.noConfusion (show true = false from hb9))))))
    · try first | exact Bool.noConfusion (show true = false from hb4) | exact absurd hb4 (by decide)
      all_goals
        (replace h0 := dp_up (up_of e4) _ _ h0
         replace h1 := dp_up (up_of e4) _ _ h1
         replace h2 := dp_up (up_of e4) _ _ h2
         replace h3 := DV.up h3 (up_of e4) (by decide)
         replace h4 := dp_up (up_of e4) _ _ h4
         replace h5 := dp_up (up_of e4) _ _ h5
         replace h6 := dp_up (up_of e4) _ _ h6
         replace h7 := dp_up (up_of e4) _ _ h7
         replace h8 := dp_up (up_of e4) _ _ h8
         replace h9 := dp_up (up_of e4) _ _ h9
         replace h10 := dp_up (up_of e4) _ _ h10
         replace hq := hq.up e4
         refine ds_set (F := F) 4 (de_f F (f_law_copy_on T) (xa_d (de_v 5 h5) (xa_d (de_v 4 h4) (xa_d (de_v 1 h1) xa_nil))) ⟨_, _, _, rfl, by first | trivial | assumption | omega | decide | simp_all, rfl⟩) fun v4_ H11 e11 h4 => ?_
         replace h0 := dp_up (up_of e11) _ _ h0
         replace h1 := dp_up (up_of e11) _ _ h1
         replace h2 := dp_up (up_of e11) _ _ h2
         replace h3 := DV.up h3 (up_of e11) (by decide)
         replace h5 := dp_up (up_of e11) _ _ h5
         replace h6 := dp_up (up_of e11) _ _ h6
         replace h7 := dp_up (up_of e11) _ _ h7
         replace h8 := dp_up (up_of e11) _ _ h8
         replace h9 := dp_up (up_of e11) _ _ h9
         replace h10 := dp_up (up_of e11) _ _ h10
         replace hq := hq.up e11
         show DSs _ _ [some v0_, some v1_, some v2_, some v3_, some v4_, some v5_, some v6_, some v7_, some v8_, some v9_, some v10_] _ _
         refine ds_if (dt_cmp (de_v 1 h1) de_str (by first | exact cm_nes | exact cm_nei | exact cm_neD F (by first | rfl | exact shaped_cp _ | exact shaped_lt _) (by first | rfl | exact shaped_cp _))) (fun hb12 H12 e12 => ?_) (fun hb12 H12 e12 => ?_)
         · try first | exact Bool.noConfusion (show false = true from hb12) | exact absurd hb12 (by decide)
           all_goals
             (replace h0 := dp_up (up_of e12) _ _ h0
              replace h1 := dp_up (up_of e12) _ _ h1
              replace h2 := dp_up (up_of e12) _ _ h2
              replace h3 := DV.up h3 (up_of e12) (by decide)
              replace h4 := dp_up (up_of e12) _ _ h4
              replace h5 := dp_up (up_of e12) _ _ h5
              replace h6 := dp_up (up_of e12) _ _ h6
              replace h7 := dp_up (up_of e12) _ _ h7
              replace h8 := dp_up (up_of e12) _ _ h8
              replace h9 := dp_up (up_of e12) _ _ h9
              replace h10 := dp_up (up_of e12) _ _ h10
              replace hq := hq.up e12
              refine ds_par3 (jx := 7) (jy := 8) (jz := 9) F (DE.toX de_int) (DE.toX (de_intb F (n_int T) (de_v 2 h2))) (DE.toX (by first | exact DE.is (de_min2 F (n_min T) de_int (de_add (de_v 9 h9) (de_intb F (n_int T) (de_v 2 h2)))) (mn0 hdn) | exact (de_min2 F (n_min T) de_int (de_add (de_v 9 h9) (de_intb F (n_int T) (de_v 2 h2)))))) fun v7_ v8_ v9_ H13 e13 h7 h8 h9 => ?_
              replace h0 := dp_up (up_of e13) _ _ h0
              replace h1 := dp_up (up_of e13) _ _ h1
              replace h2 := dp_up (up_of e13) _ _ h2
              replace h3 := DV.up h3 (up_of e13) (by decide)
              replace h4 := dp_up (up_of e13) _ _ h4
              replace h5 := dp_up (up_of e13) _ _ h5
              replace h6 := dp_up (up_of e13) _ _ h6
              replace h10 := dp_up (up_of e13) _ _ h10
              replace hq := hq.up e13
              show DSs _ _ [some v0_, some v1_, some v2_, some v3_, some v4_, some v5_, some v6_, some v7_, some v8_, some v9_, some v10_] _ _
              refine ds_nil ?_
              show DSs _ _ _ _ _
              exact ds_ret (de_tup (xa_d (show DE _ _ _ _ _ (.str (serverAfter srv x)) from by rcases hx with rfl | rfl | rfl | ⟨rfl, _⟩; exact de_dv_get none F (dv_v 3 h3) (de_v 1 h1) de_str (fun ws hl => match ws, hl with | [_, _], _ => rfl) (.inl ⟨rfl, rfl⟩); exact de_dv_get none F (dv_v 3 h3) (de_v 1 h1) de_str (fun ws hl => match ws, hl with | [_, _], _ => rfl) (.inl ⟨rfl, rfl⟩); exact DE.is (de_dv_get (some 0) F (dv_v 3 h3) (de_v 1 h1) de_str (fun ws hl => match ws, hl with | [_, _], _ => rfl) (.inr ⟨0, rfl, rfl⟩)) (sv_take (htk rfl)); exact DE.is (de_dv_get (some 1) F (dv_v 3 h3) (de_v 1 h1) de_str (fun ws hl => match ws, hl with | [_, _], _ => rfl) (.inr ⟨1, rfl, rfl⟩)) sv_tick) (xa_d (de_v 6 h6) (xa_d (de_v 4 h4) (xa_d (de_v 7 h7) (xa_d (de_v 8 h8) (xa_d (de_v 9 h9) (xa_d (de_v 10 h10) xa_nil)))))))) hq (by by_cases hd : x = "tick"; (subst hd; first | rfl | exact Bool.noConfusion (show false = true from hb12) | exact Bool.noConfusion hx.2); (rw [decide_eq_false hd]; first | rfl | (rw [decide_eq_false hd] at hb12; exact Bool.noConfusion (show true = false from hb12)))))
         · try first | exact Bool.noConfusion (show true = false from hb12) | exact absurd hb12 (by decide)
           all_goals
             (replace h0 := dp_up (up_of e12) _ _ h0
              replace h1 := dp_up (up_of e12) _ _ h1
              replace h2 := dp_up (up_of e12) _ _ h2
              replace h3 := DV.up h3 (up_of e12) (by decide)
              replace h4 := dp_up (up_of e12) _ _ h4
              replace h5 := dp_up (up_of e12) _ _ h5
              replace h6 := dp_up (up_of e12) _ _ h6
              replace h7 := dp_up (up_of e12) _ _ h7
              replace h8 := dp_up (up_of e12) _ _ h8
              replace h9 := dp_up (up_of e12) _ _ h9
              replace h10 := dp_up (up_of e12) _ _ h10
              replace hq := hq.up e12
              exact ds_ret (de_tup (xa_d (show DE _ _ _ _ _ (.str (serverAfter srv x)) from by rcases hx with rfl | rfl | rfl | ⟨rfl, _⟩; exact de_dv_get none F (dv_v 3 h3) (de_v 1 h1) de_str (fun ws hl => match ws, hl with | [_, _], _ => rfl) (.inl ⟨rfl, rfl⟩); exact de_dv_get none F (dv_v 3 h3) (de_v 1 h1) de_str (fun ws hl => match ws, hl with | [_, _], _ => rfl) (.inl ⟨rfl, rfl⟩); exact DE.is (de_dv_get (some 0) F (dv_v 3 h3) (de_v 1 h1) de_str (fun ws hl => match ws, hl with | [_, _], _ => rfl) (.inr ⟨0, rfl, rfl⟩)) (sv_take (htk rfl)); exact DE.is (de_dv_get (some 1) F (dv_v 3 h3) (de_v 1 h1) de_str (fun ws hl => match ws, hl with | [_, _], _ => rfl) (.inr ⟨1, rfl, rfl⟩)) sv_tick) (xa_d (de_v 6 h6) (xa_d (de_v 4 h4) (xa_d (de_v 7 h7) (xa_d (de_v 8 h8) (xa_d (de_v 9 h9) (xa_d (de_v 10 h10) xa_nil)))))))) hq (by by_cases hd : x = "tick"; (subst hd; first | rfl | exact Bool.noConfusion (show false = true from hb12) | exact Bool.noConfusion hx.2); (rw [decide_eq_false hd]; first | rfl | (rw [decide_eq_false hd] at hb12; exact Bool.noConfusion (show true = false from hb12)))))))
end
end PK
namespace PK
open L2 PySem PySem.Spec PyProof.Rows
/-- what the law's own rules want of a state -/
structure SafeS (s : StD) : Prop where
  cp : CpW s.srv s.cp
  lc : CpW s.srv (lateC s)
  dn : s.dn ≤ 2
theorem take_yes_there {s : Str} {c : Cp} {k : Str} (h : takeBy s c k = "yes") : isThere s = true := by
  revert h
  unfold takeBy
  cases isThere s <;> cases isLeftOut c k <;> cases doesHold s c k <;> decide
theorem act_own {o : Stp} {s : StD} {c : Cp} (hc : ConOk o) (h : isDoneBy o s.srv c = true) (hd : s.dn ≤ 2) : ActOk s (actOf o) true := by
  cases o with
  | put k z a b c' =>
    have n1 : ¬ ("small" : Str) = "take" := by decide
    have n2 : ¬ ("great" : Str) = "take" := by decide
    rcases hc.2 with rfl | rfl
    · exact ⟨.inr (.inl rfl), fun e => absurd e n1, hd⟩
    · exact ⟨.inl rfl, fun e => absurd e n2, hd⟩
  | take k a b c' d => exact ⟨.inr (.inr (.inl rfl)), fun _ => .inl (take_yes_there (of_decide_eq_true h)), hd⟩
  | _ => cases h
theorem act_d {o : Stp} {s : StD} (hc : ConOk o) (hw : isWr o = true) : (bif decide (actOf o = "tick") then ticked s else acted s (actOf o) true).d = (acted s (actOf o) true).d := by
  cases o with
  | put k z a b c' => rcases hc.2 with rfl | rfl <;> rfl
  | take => rfl
  | _ => cases hw
theorem yes_done {o : Stp} {s : Str} {c : Cp} (hw : isWr o = true) (h : ansTo o s c = "yes") : isDoneBy o s c = true := by
  cases o with
  | put => exact decide_eq_true h
  | take => exact decide_eq_true h
  | _ => cases hw
theorem got_there {s : Str} {c : Cp} {k : Str} (h : readBy s c k = "got" ∨ readBy s c k = "unchanged") : isThere s = true := by
  revert h
  unfold readBy
  cases isThere s <;> cases isLeftOut c k <;> cases matchesC c k <;> decide
theorem read_abs {s : Str} {c : Cp} {k : Str} (h : readBy s c k = "absent") : isThere s = false := by
  revert h
  unfold readBy
  cases isThere s <;> cases isLeftOut c k <;> cases matchesC c k <;> decide
theorem take_abs {s : Str} {c : Cp} {k : Str} (h : takeBy s c k = "absent") : isThere s = false := by
  revert h
  unfold takeBy
  cases isThere s <;> cases isLeftOut c k <;> cases doesHold s c k <;> decide
section
variable {P : Program} {w : World} {K : PySem.W.Frag} {mg : Str → Option Value} {base : Heap} (T : Txt w K mg)
include T
def pre_law_behind_answer (xs : List Dx) (r : PyData) : Prop := ∃ (ss : List PyData) (s : StD) (o : Stp), xs = [.d (.tuple ss), .d (s.d)] ∧ (At ss s.num o ∧ endB o = false ∧ SafeS s) ∧ r = (answeredD o s).d
theorem f_law_behind_answer : FnC P w K mg base 3 "_law_behind_answer" (Spf K pre_law_behind_answer) := by
  refine fnC_pure (N := ["_law_steps", "_law_state", "_law_one", "_law_word", "_law_n", "_law_held", "_law_nexts", "_law_server", "_law_at", "_law_copy", "_law_known", "_law_own", "_law_done", "_law_late"]) (ps := ["_law_steps", "_law_state"]) (h_law_behind_answer T) (m_law_behind_answer T) ⟨rfl, rfl, rfl, by decide +kernel, rfl, by decide +kernel, by decide +kernel⟩ (fun _ _ _ _ _ _ us hl => match us, hl with | [_, _], _ => rfl) (fun xs r h => by
    obtain ⟨_, _, _, rfl, _⟩ := h
    rfl) ?_
  intro Y cdv A outer s_ H vs xs r Q E hY F hv hp hq
  subst hY
  obtain ⟨ss, s, o, rfl, hc, rfl⟩ := hp
  obtain ⟨v0_, v1_, rfl, h0, h1⟩ := vxs2 hv
  obtain ⟨x, b, hA, hO, hW⟩ := ans_split o s
  show DSs _ _ [some v0_, some v1_, _, _, _, _, _, _, _, _, _, _, _, _] _ _
  (rcases o with ⟨k, a, a1, a2, a3, a4⟩ | ⟨k, z, a, a1, a2⟩ | ⟨k, a, a1, a2, a3⟩ | m | w_; rcases hW with rfl | rfl | rfl; have hT : isThere s.srv = true := got_there (.inl hA); rotate_left; have hT : isThere s.srv = true := got_there (.inr hA); rotate_left; have hT : isThere s.srv = false := read_abs hA; rotate_left; rcases hW with rfl | rfl; obtain ⟨hk, hz⟩ := hc.1.2; have hD := act_own (o := .put k z a a1 a2) hc.1.2 (yes_done rfl hA) hc.2.2.dn; (rcases hz with rfl | rfl); have hT : isThere (serverAfter s.srv "small") = true := rfl; rotate_left; have hT : isThere (serverAfter s.srv "great") = true := rfl; rotate_left; have hT : isThere s.srv = isThere s.srv := rfl; rotate_left; rcases hW with rfl | rfl | rfl; have hD := act_own (o := .take k a a1 a2 a3) hc.1.2 (yes_done rfl hA) hc.2.2.dn; have hS := take_yes_there hA; have hT : isThere (serverAfter s.srv "take") = false := (by unfold serverAfter; rw [hS] <;> rfl); rotate_left; have hT : isThere s.srv = isThere s.srv := rfl; rotate_left; have hT : isThere s.srv = false := take_abs hA; rotate_left 2; exact Bool.noConfusion (show true = false from hc.2.1); rotate_left; all_goals (try cases b); all_goals (try rw [answered_eq rfl hA hO] at hq; simp only [md_unchanged, md_absent, md_yes, md_no, md_gt, md_gf, as_got, as_mine, as_yes, as_absent, as_no, as_unchanged] at hq)) <;> (
    refine ds_unp F (de_v 1 h1) (gn_cons F 7 (gn_cons F 8 (gn_cons F 9 (gn_cons F 10 (gn_cons F 11 (gn_cons F 12 (gn_cons F 13 gn_nil))))))) fun us1 H1 e1 hu1 => ?_
    replace h0 := dp_up (up_of e1) _ _ h0
    replace h1 := dp_up (up_of e1) _ _ h1
    replace hq := hq.up e1
    obtain ⟨v7_, v8_, v9_, v10_, v11_, v12_, v13_, rfl, h7, h8, h9, h10, h11, h12, h13⟩ := dpa7 hu1
    show DSs _ _ [some v0_, some v1_, _, _, _, _, _, some v7_, some v8_, some v9_, some v10_, some v11_, some v12_, some v13_] _ _
    refine ds_set (F := F) 2 (de_ixT F (de_v 0 h0) (de_v 8 h8) (hc.1.1)) fun v2_ H2 e2 h2 => ?_
    replace h0 := dp_up (up_of e2) _ _ h0
    replace h1 := dp_up (up_of e2) _ _ h1
    replace h7 := dp_up (up_of e2) _ _ h7
    replace h8 := dp_up (up_of e2) _ _ h8
    replace h9 := dp_up (up_of e2) _ _ h9
    replace h10 := dp_up (up_of e2) _ _ h10
    replace h11 := dp_up (up_of e2) _ _ h11
    replace h12 := dp_up (up_of e2) _ _ h12
    replace h13 := dp_up (up_of e2) _ _ h13
    replace hq := hq.up e2
    show DSs _ _ [some v0_, some v1_, some v2_, _, _, _, _, some v7_, some v8_, some v9_, some v10_, some v11_, some v12_, some v13_] _ _
    refine ds_if (dt_cmp (de_ixT F (de_v 2 h2) de_int) de_str (by first | exact cm_eqs | exact cm_eqi | exact cm_eqb | exact cm_eqD F (by first | rfl | exact shaped_cp _ | exact shaped_lt _) (by first | rfl | exact shaped_cp _))) (fun hb3 H3 e3 => ?_) (fun hb3 H3 e3 => ?_)
    · try first | exact Bool.noConfusion (show false = true from hb3) | exact absurd hb3 (by decide)
      all_goals
        (replace h0 := dp_up (up_of e3) _ _ h0
         replace h1 := dp_up (up_of e3) _ _ h1
         replace h2 := dp_up (up_of e3) _ _ h2
         replace h7 := dp_up (up_of e3) _ _ h7
         replace h8 := dp_up (up_of e3) _ _ h8
         replace h9 := dp_up (up_of e3) _ _ h9
         replace h10 := dp_up (up_of e3) _ _ h10
         replace h11 := dp_up (up_of e3) _ _ h11
         replace h12 := dp_up (up_of e3) _ _ h12
         replace h13 := dp_up (up_of e3) _ _ h13
         replace hq := hq.up e3
         exact ds_ret (de_tup (xa_d (de_v 7 h7) (xa_d (de_ixT F (de_v 2 h2) de_int) (xa_d (de_tup xa_nil) (xa_d (de_v 10 h10) (xa_d (de_v 11 h11) (xa_d (de_v 12 h12) (xa_d (de_v 13 h13) xa_nil)))))))) hq (by rfl))
    · try first | exact Bool.noConfusion (show true = false from hb3) | exact absurd hb3 (by decide)
      all_goals
        (replace h0 := dp_up (up_of e3) _ _ h0
         replace h1 := dp_up (up_of e3) _ _ h1
         replace h2 := dp_up (up_of e3) _ _ h2
         replace h7 := dp_up (up_of e3) _ _ h7
         replace h8 := dp_up (up_of e3) _ _ h8
         replace h9 := dp_up (up_of e3) _ _ h9
         replace h10 := dp_up (up_of e3) _ _ h10
         replace h11 := dp_up (up_of e3) _ _ h11
         replace h12 := dp_up (up_of e3) _ _ h12
         replace h13 := dp_up (up_of e3) _ _ h13
         replace hq := hq.up e3
         refine ds_set (F := F) 3 (DE.is (de_f F (f_law_passes T) (xa_d (de_v 7 h7) (xa_d (de_v 9 h9) (xa_d (de_v 2 h2) xa_nil))) ⟨_, _, _, rfl, ⟨hc.1.2, rfl, hc.2.2.cp⟩, rfl⟩) (congrArg PyData.str hA)) fun v3_ H4 e4 h3 => ?_
         replace h0 := dp_up (up_of e4) _ _ h0
         replace h1 := dp_up (up_of e4) _ _ h1
         replace h2 := dp_up (up_of e4) _ _ h2
         replace h7 := dp_up (up_of e4) _ _ h7
         replace h8 := dp_up (up_of e4) _ _ h8
         replace h9 := dp_up (up_of e4) _ _ h9
         replace h10 := dp_up (up_of e4) _ _ h10
         replace h11 := dp_up (up_of e4) _ _ h11
         replace h12 := dp_up (up_of e4) _ _ h12
         replace h13 := dp_up (up_of e4) _ _ h13
         replace hq := hq.up e4
         show DSs _ _ [some v0_, some v1_, some v2_, some v3_, _, _, _, some v7_, some v8_, some v9_, some v10_, some v11_, some v12_, some v13_] _ _
         refine ds_if (dt_cmp (de_v 3 h3) de_str (by first | exact cm_eqs | exact cm_eqi | exact cm_eqb | exact cm_eqD F (by first | rfl | exact shaped_cp _ | exact shaped_lt _) (by first | rfl | exact shaped_cp _))) (fun hb5 H5 e5 => ?_) (fun hb5 H5 e5 => ?_)
         · try first | exact Bool.noConfusion (show false = true from hb5) | exact absurd hb5 (by decide)
           all_goals
             (replace h0 := dp_up (up_of e5) _ _ h0
              replace h1 := dp_up (up_of e5) _ _ h1
              replace h2 := dp_up (up_of e5) _ _ h2
              replace h3 := dp_up (up_of e5) _ _ h3
              replace h7 := dp_up (up_of e5) _ _ h7
              replace h8 := dp_up (up_of e5) _ _ h8
              replace h9 := dp_up (up_of e5) _ _ h9
              replace h10 := dp_up (up_of e5) _ _ h10
              replace h11 := dp_up (up_of e5) _ _ h11
              replace h12 := dp_up (up_of e5) _ _ h12
              replace h13 := dp_up (up_of e5) _ _ h13
              replace hq := hq.up e5
              refine ds_set (F := F) 1 (DE.is (de_f F (f_law_behind_act T) (xa_d (de_v 1 h1) (xa_d (de_f F (f_law_act_of T) (xa_d (de_v 2 h2) xa_nil) ⟨_, rfl, by first | trivial | assumption | omega | decide | simp_all, rfl⟩) (xa_d de_bl xa_nil))) ⟨_, _, _, rfl, hD, rfl⟩) (act_d hc.1.2 rfl)) fun v1_ H6 e6 h1 => ?_
              replace h0 := dp_up (up_of e6) _ _ h0
              replace h2 := dp_up (up_of e6) _ _ h2
              replace h3 := dp_up (up_of e6) _ _ h3
              replace h7 := dp_up (up_of e6) _ _ h7
              replace h8 := dp_up (up_of e6) _ _ h8
              replace h9 := dp_up (up_of e6) _ _ h9
              replace h10 := dp_up (up_of e6) _ _ h10
              replace h11 := dp_up (up_of e6) _ _ h11
              replace h12 := dp_up (up_of e6) _ _ h12
              replace h13 := dp_up (up_of e6) _ _ h13
              replace hq := hq.up e6
              show DSs _ _ [some v0_, some v1_, some v2_, some v3_, _, _, _, some v7_, some v8_, some v9_, some v10_, some v11_, some v12_, some v13_] _ _
              refine ds_nil ?_
              show DSs _ _ _ _ _
              refine ds_set (F := F) 4 (de_intb F (n_int T) (de_cmp (de_ixT F (de_v 1 h1) de_int) de_str (by first | exact cm_eqs | exact cm_eqi | exact cm_eqb | exact cm_eqD F (by first | rfl | exact shaped_cp _ | exact shaped_lt _) (by first | rfl | exact shaped_cp _)))) fun v4_ H7 e7 h4 => ?_
              replace h0 := dp_up (up_of e7) _ _ h0
              replace h1 := dp_up (up_of e7) _ _ h1
              replace h2 := dp_up (up_of e7) _ _ h2
              replace h3 := dp_up (up_of e7) _ _ h3
              replace h7 := dp_up (up_of e7) _ _ h7
              replace h8 := dp_up (up_of e7) _ _ h8
              replace h9 := dp_up (up_of e7) _ _ h9
              replace h10 := dp_up (up_of e7) _ _ h10
              replace h11 := dp_up (up_of e7) _ _ h11
              replace h12 := dp_up (up_of e7) _ _ h12
              replace h13 := dp_up (up_of e7) _ _ h13
              replace hq := hq.up e7
              show DSs _ _ [some v0_, some v1_, some v2_, some v3_, some v4_, _, _, some v7_, some v8_, some v9_, some v10_, some v11_, some v12_, some v13_] _ _
              refine ds_set (F := F) 5 (de_if (dt_eq (dt_cmp (de_ixT F (de_v 1 h1) de_int) (de_tup (xa_d de_str (xa_d de_str xa_nil))) (by first | exact cm_inS F | exact cm_inS F (by assumption) | exact cm_inD F (by first | rfl | exact shaped_cp _) (by first | rfl | assumption))) hT) (fun hb9 => (de_tup (xa_d de_int (xa_d de_int (xa_d de_int (xa_d (de_v 4 h4) xa_nil)))))) fun hb9 => (de_tup xa_nil)) fun v5_ H8 e8 h5 => ?_
              replace h0 := dp_up (up_of e8) _ _ h0
              replace h1 := dp_up (up_of e8) _ _ h1
              replace h2 := dp_up (up_of e8) _ _ h2
              replace h3 := dp_up (up_of e8) _ _ h3
              replace h4 := dp_up (up_of e8) _ _ h4
              replace h7 := dp_up (up_of e8) _ _ h7
              replace h8 := dp_up (up_of e8) _ _ h8
              replace h9 := dp_up (up_of e8) _ _ h9
              replace h10 := dp_up (up_of e8) _ _ h10
              replace h11 := dp_up (up_of e8) _ _ h11
              replace h12 := dp_up (up_of e8) _ _ h12
              replace h13 := dp_up (up_of e8) _ _ h13
              replace hq := hq.up e8
              show DSs _ _ [some v0_, some v1_, some v2_, some v3_, some v4_, some v5_, _, some v7_, some v8_, some v9_, some v10_, some v11_, some v12_, some v13_] _ _
              refine ds_set (F := F) 6 (de_f F (f_law_next_step T) (xa_d (de_v 2 h2) (xa_d (de_if (dt_w (dw_and (dt_cmp (de_v 3 h3) de_str (by first | exact cm_eqs | exact cm_eqi | exact cm_eqb | exact cm_eqD F (by first | rfl | exact shaped_cp _ | exact shaped_lt _) (by first | rfl | exact shaped_cp _))) fun _ => dw_one_and (DT.is (dt_cmp (de_v 11 h11) de_int (by first | exact cm_eqs | exact cm_eqi | exact cm_eqb | exact cm_eqD F (by first | rfl | exact shaped_cp _ | exact shaped_lt _) (by first | rfl | exact shaped_cp _))) hO))) (fun hb11 => de_str) fun hb11 => (de_v 3 h3)) xa_nil)) ⟨_, _, rfl, by simp [AnsOk], rfl⟩) fun v6_ H10 e10 h6 => ?_
              replace h0 := dp_up (up_of e10) _ _ h0
              replace h1 := dp_up (up_of e10) _ _ h1
              replace h2 := dp_up (up_of e10) _ _ h2
              replace h3 := dp_up (up_of e10) _ _ h3
              replace h4 := dp_up (up_of e10) _ _ h4
              replace h5 := dp_up (up_of e10) _ _ h5
              replace h7 := dp_up (up_of e10) _ _ h7
              replace h8 := dp_up (up_of e10) _ _ h8
              replace h9 := dp_up (up_of e10) _ _ h9
              replace h10 := dp_up (up_of e10) _ _ h10
              replace h11 := dp_up (up_of e10) _ _ h11
              replace h12 := dp_up (up_of e10) _ _ h12
              replace h13 := dp_up (up_of e10) _ _ h13
              replace hq := hq.up e10
              show DSs _ _ [some v0_, some v1_, some v2_, some v3_, some v4_, some v5_, some v6_, some v7_, some v8_, some v9_, some v10_, some v11_, some v12_, some v13_] _ _
              refine ds_if (dt_cmp (de_v 3 h3) (de_tup (xa_d de_str (xa_d de_str (xa_d de_str xa_nil)))) (by first | exact cm_inS F | exact cm_inS F (by assumption) | exact cm_inD F (by first | rfl | exact shaped_cp _) (by first | rfl | assumption))) (fun hb12 H12 e12 => ?_) (fun hb12 H12 e12 => ?_)
              · try first | exact Bool.noConfusion (show false = true from hb12) | exact absurd hb12 (by decide)
                all_goals
                  (replace h0 := dp_up (up_of e12) _ _ h0
                   replace h1 := dp_up (up_of e12) _ _ h1
                   replace h2 := dp_up (up_of e12) _ _ h2
                   replace h3 := dp_up (up_of e12) _ _ h3
                   replace h4 := dp_up (up_of e12) _ _ h4
                   replace h5 := dp_up (up_of e12) _ _ h5
                   replace h6 := dp_up (up_of e12) _ _ h6
                   replace h7 := dp_up (up_of e12) _ _ h7
                   replace h8 := dp_up (up_of e12) _ _ h8
                   replace h9 := dp_up (up_of e12) _ _ h9
                   replace h10 := dp_up (up_of e12) _ _ h10
                   replace h11 := dp_up (up_of e12) _ _ h11
                   replace h12 := dp_up (up_of e12) _ _ h12
                   replace h13 := dp_up (up_of e12) _ _ h13
                   replace hq := hq.up e12
                   exact ds_ret (de_catT F (de_tup (xa_d (de_ixT F (de_v 1 h1) de_int) (xa_d (de_v 6 h6) (xa_d (de_v 5 h5) (xa_d de_int xa_nil))))) (de_slT F (de_v 1 h1) (oe_some (K := K) de_int) oe_none)) hq (by rfl))
              · try first | exact Bool.noConfusion (show true = false from hb12) | exact absurd hb12 (by decide)
                all_goals
                  (replace h0 := dp_up (up_of e12) _ _ h0
                   replace h1 := dp_up (up_of e12) _ _ h1
                   replace h2 := dp_up (up_of e12) _ _ h2
                   replace h3 := dp_up (up_of e12) _ _ h3
                   replace h4 := dp_up (up_of e12) _ _ h4
                   replace h5 := dp_up (up_of e12) _ _ h5
                   replace h6 := dp_up (up_of e12) _ _ h6
                   replace h7 := dp_up (up_of e12) _ _ h7
                   replace h8 := dp_up (up_of e12) _ _ h8
                   replace h9 := dp_up (up_of e12) _ _ h9
                   replace h10 := dp_up (up_of e12) _ _ h10
                   replace h11 := dp_up (up_of e12) _ _ h11
                   replace h12 := dp_up (up_of e12) _ _ h12
                   replace h13 := dp_up (up_of e12) _ _ h13
                   replace hq := hq.up e12
                   exact ds_ret (de_catT F (de_tup (xa_d (de_ixT F (de_v 1 h1) de_int) (xa_d (de_v 6 h6) xa_nil))) (de_slT F (de_v 1 h1) (oe_some (K := K) de_int) oe_none)) hq (by rfl)))
         · try first | exact Bool.noConfusion (show true = false from hb5) | exact absurd hb5 (by decide)
           all_goals
             (replace h0 := dp_up (up_of e5) _ _ h0
              replace h1 := dp_up (up_of e5) _ _ h1
              replace h2 := dp_up (up_of e5) _ _ h2
              replace h3 := dp_up (up_of e5) _ _ h3
              replace h7 := dp_up (up_of e5) _ _ h7
              replace h8 := dp_up (up_of e5) _ _ h8
              replace h9 := dp_up (up_of e5) _ _ h9
              replace h10 := dp_up (up_of e5) _ _ h10
              replace h11 := dp_up (up_of e5) _ _ h11
              replace h12 := dp_up (up_of e5) _ _ h12
              replace h13 := dp_up (up_of e5) _ _ h13
              replace hq := hq.up e5
              refine ds_set (F := F) 4 (de_intb F (n_int T) (de_cmp (de_ixT F (de_v 1 h1) de_int) de_str (by first | exact cm_eqs | exact cm_eqi | exact cm_eqb | exact cm_eqD F (by first | rfl | exact shaped_cp _ | exact shaped_lt _) (by first | rfl | exact shaped_cp _)))) fun v4_ H13 e13 h4 => ?_
              replace h0 := dp_up (up_of e13) _ _ h0
              replace h1 := dp_up (up_of e13) _ _ h1
              replace h2 := dp_up (up_of e13) _ _ h2
              replace h3 := dp_up (up_of e13) _ _ h3
              replace h7 := dp_up (up_of e13) _ _ h7
              replace h8 := dp_up (up_of e13) _ _ h8
              replace h9 := dp_up (up_of e13) _ _ h9
              replace h10 := dp_up (up_of e13) _ _ h10
              replace h11 := dp_up (up_of e13) _ _ h11
              replace h12 := dp_up (up_of e13) _ _ h12
              replace h13 := dp_up (up_of e13) _ _ h13
              replace hq := hq.up e13
              show DSs _ _ [some v0_, some v1_, some v2_, some v3_, some v4_, _, _, some v7_, some v8_, some v9_, some v10_, some v11_, some v12_, some v13_] _ _
              refine ds_set (F := F) 5 (de_if (dt_eq (dt_cmp (de_ixT F (de_v 1 h1) de_int) (de_tup (xa_d de_str (xa_d de_str xa_nil))) (by first | exact cm_inS F | exact cm_inS F (by assumption) | exact cm_inD F (by first | rfl | exact shaped_cp _) (by first | rfl | assumption))) hT) (fun hb15 => (de_tup (xa_d de_int (xa_d de_int (xa_d de_int (xa_d (de_v 4 h4) xa_nil)))))) fun hb15 => (de_tup xa_nil)) fun v5_ H14 e14 h5 => ?_
              replace h0 := dp_up (up_of e14) _ _ h0
              replace h1 := dp_up (up_of e14) _ _ h1
              replace h2 := dp_up (up_of e14) _ _ h2
              replace h3 := dp_up (up_of e14) _ _ h3
              replace h4 := dp_up (up_of e14) _ _ h4
              replace h7 := dp_up (up_of e14) _ _ h7
              replace h8 := dp_up (up_of e14) _ _ h8
              replace h9 := dp_up (up_of e14) _ _ h9
              replace h10 := dp_up (up_of e14) _ _ h10
              replace h11 := dp_up (up_of e14) _ _ h11
              replace h12 := dp_up (up_of e14) _ _ h12
              replace h13 := dp_up (up_of e14) _ _ h13
              replace hq := hq.up e14
              show DSs _ _ [some v0_, some v1_, some v2_, some v3_, some v4_, some v5_, _, some v7_, some v8_, some v9_, some v10_, some v11_, some v12_, some v13_] _ _
              refine ds_set (F := F) 6 (de_f F (f_law_next_step T) (xa_d (de_v 2 h2) (xa_d (de_if (dt_w (dw_and (dt_cmp (de_v 3 h3) de_str (by first | exact cm_eqs | exact cm_eqi | exact cm_eqb | exact cm_eqD F (by first | rfl | exact shaped_cp _ | exact shaped_lt _) (by first | rfl | exact shaped_cp _))) fun _ => dw_one_and (DT.is (dt_cmp (de_v 11 h11) de_int (by first | exact cm_eqs | exact cm_eqi | exact cm_eqb | exact cm_eqD F (by first | rfl | exact shaped_cp _ | exact shaped_lt _) (by first | rfl | exact shaped_cp _))) hO))) (fun hb17 => de_str) fun hb17 => (de_v 3 h3)) xa_nil)) ⟨_, _, rfl, by simp [AnsOk], rfl⟩) fun v6_ H16 e16 h6 => ?_
              replace h0 := dp_up (up_of e16) _ _ h0
              replace h1 := dp_up (up_of e16) _ _ h1
              replace h2 := dp_up (up_of e16) _ _ h2
              replace h3 := dp_up (up_of e16) _ _ h3
              replace h4 := dp_up (up_of e16) _ _ h4
              replace h5 := dp_up (up_of e16) _ _ h5
              replace h7 := dp_up (up_of e16) _ _ h7
              replace h8 := dp_up (up_of e16) _ _ h8
              replace h9 := dp_up (up_of e16) _ _ h9
              replace h10 := dp_up (up_of e16) _ _ h10
              replace h11 := dp_up (up_of e16) _ _ h11
              replace h12 := dp_up (up_of e16) _ _ h12
              replace h13 := dp_up (up_of e16) _ _ h13
              replace hq := hq.up e16
              show DSs _ _ [some v0_, some v1_, some v2_, some v3_, some v4_, some v5_, some v6_, some v7_, some v8_, some v9_, some v10_, some v11_, some v12_, some v13_] _ _
              refine ds_if (dt_cmp (de_v 3 h3) (de_tup (xa_d de_str (xa_d de_str (xa_d de_str xa_nil)))) (by first | exact cm_inS F | exact cm_inS F (by assumption) | exact cm_inD F (by first | rfl | exact shaped_cp _) (by first | rfl | assumption))) (fun hb18 H18 e18 => ?_) (fun hb18 H18 e18 => ?_)
              · try first | exact Bool.noConfusion (show false = true from hb18) | exact absurd hb18 (by decide)
                all_goals
                  (replace h0 := dp_up (up_of e18) _ _ h0
                   replace h1 := dp_up (up_of e18) _ _ h1
                   replace h2 := dp_up (up_of e18) _ _ h2
                   replace h3 := dp_up (up_of e18) _ _ h3
                   replace h4 := dp_up (up_of e18) _ _ h4
                   replace h5 := dp_up (up_of e18) _ _ h5
                   replace h6 := dp_up (up_of e18) _ _ h6
                   replace h7 := dp_up (up_of e18) _ _ h7
                   replace h8 := dp_up (up_of e18) _ _ h8
                   replace h9 := dp_up (up_of e18) _ _ h9
                   replace h10 := dp_up (up_of e18) _ _ h10
                   replace h11 := dp_up (up_of e18) _ _ h11
                   replace h12 := dp_up (up_of e18) _ _ h12
                   replace h13 := dp_up (up_of e18) _ _ h13
                   replace hq := hq.up e18
                   exact ds_ret (de_catT F (de_tup (xa_d (de_ixT F (de_v 1 h1) de_int) (xa_d (de_v 6 h6) (xa_d (de_v 5 h5) (xa_d de_int xa_nil))))) (de_slT F (de_v 1 h1) (oe_some (K := K) de_int) oe_none)) hq (by rfl))
              · try first | exact Bool.noConfusion (show true = false from hb18) | exact absurd hb18 (by decide)
                all_goals
                  (replace h0 := dp_up (up_of e18) _ _ h0
                   replace h1 := dp_up (up_of e18) _ _ h1
                   replace h2 := dp_up (up_of e18) _ _ h2
                   replace h3 := dp_up (up_of e18) _ _ h3
                   replace h4 := dp_up (up_of e18) _ _ h4
                   replace h5 := dp_up (up_of e18) _ _ h5
                   replace h6 := dp_up (up_of e18) _ _ h6
                   replace h7 := dp_up (up_of e18) _ _ h7
                   replace h8 := dp_up (up_of e18) _ _ h8
                   replace h9 := dp_up (up_of e18) _ _ h9
                   replace h10 := dp_up (up_of e18) _ _ h10
                   replace h11 := dp_up (up_of e18) _ _ h11
                   replace h12 := dp_up (up_of e18) _ _ h12
                   replace h13 := dp_up (up_of e18) _ _ h13
                   replace hq := hq.up e18
                   exact ds_ret (de_catT F (de_tup (xa_d (de_ixT F (de_v 1 h1) de_int) (xa_d (de_v 6 h6) xa_nil))) (de_slT F (de_v 1 h1) (oe_some (K := K) de_int) oe_none)) hq (by rfl)))))
end
end PK
namespace PK
open L2 PySem PySem.Spec PyProof.Rows
theorem sentM_eq (s : StD) : PyData.int (bif (decide (s.kn = 1) || decide (s.ow = 1)) then 1 else 0) = PyData.int (sentM s) := by
  unfold sentM
  by_cases h1 : s.kn = 1 <;> by_cases h2 : s.ow = 1 <;> simp [h1, h2]
theorem comeD_t {o : Stp} {s : StD} {c : Cp} {n : Str} (h : isDoneBy o s.srv c = true) : comeD o s c n = bif decide (n = "again") then acted s (actOf o) true else { acted s (actOf o) true with lt := none } := by
  unfold comeD comeL
  rw [h] <;> rfl
theorem comeD_f {o : Stp} {s : StD} {c : Cp} {n : Str} (h : isDoneBy o s.srv c = false) : comeD o s c n = bif decide (n = "again") then s else { s with lt := none } := by
  unfold comeD comeL
  rw [h] <;> rfl
theorem can_take {o : Stp} {s : StD} {ot : List Str} {n : Str} (h : canHappen o s "take" ot n = true) : isThere s.srv = true := by
  have h : (memS "take" (ot.map .str) && (decide (("take" : Str) = "great") || isThere s.srv)) = true := h
  have h2 := (Bool.and_eq_true_iff.mp h).2
  exact h2
theorem can_unheard {o : Stp} {s : StD} {ot : List Str} {n : Str} (h : canHappen o s "unheard" ot n = true) : n ≠ "sure" ∧ isDoneBy o s.srv s.cp = true := by
  have h : (if n = "sure" then false else isDoneBy o s.srv s.cp) = true := h
  split at h
  · cases h
  · exact ⟨by assumption, h⟩
theorem can_unsent {o : Stp} {s : StD} {ot : List Str} {n : Str} (h : canHappen o s "unsent" ot n = true) : n ≠ "sure" ∧ isReq o = true := by
  have h : (if n = "sure" then false else isReq o) = true := h
  split at h
  · cases h
  · exact ⟨by assumption, h⟩
section
variable {o : Stp} {s : StD} {c : Cp} {kn : Int} {p : Str}
theorem ff_a (h : (decide (kn = 1) || decide (s.ow = 1)) = true) : false = faultD o s c kn p := by
  unfold faultD
  rw [h, Bool.or_true] <;> rfl
theorem ff_b (h : isDoneBy o s.srv c = false) : false = faultD o s c kn p := by
  unfold faultD
  rw [h] <;> rfl
theorem ff_k (h1 : (decide (kn = 1) || decide (s.ow = 1)) = false) (h2 : isDoneBy o s.srv c = true) (hp : decide (p = "kept") = true) : isThere s.srv = faultD o s c kn p := by
  unfold faultD
  rw [h1, h2, hp] <;> rfl
theorem ff_g (h1 : (decide (kn = 1) || decide (s.ow = 1)) = false) (h2 : isDoneBy o s.srv c = true) (hp : decide (p = "kept") = false) : (decide (s.srv = "gone") && notNone o) = faultD o s c kn p := by
  unfold faultD
  rw [h1, h2, hp] <;> rfl
theorem not_t {b : Bool} (h : (!b) = true) : b = false := by
  cases b
  · rfl
  · cases h
theorem not_f {b : Bool} (h : (!b) = false) : b = true := by
  cases b
  · cases h
  · rfl
end
section
variable {P : Program} {w : World} {K : PySem.W.Frag} {mg : Str → Option Value} {base : Heap} (T : Txt w K mg)
include T
def pre_law_behind (xs : List Dx) (r : PyData) : Prop := ∃ (ss : List PyData) (s : StD) (o : Stp) (o2 : Stp) (e : Str) (ot : List Str) (n : Str), xs = [.d (.tuple ss), .d (s.d), .d (.str e), .d (.str n)] ∧ (EvOk e ∧ At ss s.num o ∧ LateAt ss s o2 ∧ canHappen o s e ot n = true ∧ NetOk n ∧ SafeS s) ∧ r = (steppedD o o2 s e n).d
theorem f_law_behind : FnC P w K mg base 4 "_law_behind" (Spf K pre_law_behind) := by
  refine fnC_pure (N := ["_law_steps", "_law_state", "_law_event", "_law_net", "_law_late", "_law_server", "_law_at", "_law_copy", "_law_known", "_law_own", "_law_done", "_law_one", "_law_meant"]) (ps := ["_law_steps", "_law_state", "_law_event", "_law_net"]) (h_law_behind T) (m_law_behind T) ⟨rfl, rfl, rfl, by decide +kernel, rfl, by decide +kernel, by decide +kernel⟩ (fun _ _ _ _ _ _ us hl => match us, hl with | [_, _, _, _], _ => rfl) (fun xs r h => by
    obtain ⟨_, _, _, _, _, _, _, rfl, _⟩ := h
    rfl) ?_
  intro Y cdv A outer s_ H vs xs r Q E hY F hv hp hq
  subst hY
  obtain ⟨ss, s, o, o2, e, ot, n, rfl, hc, rfl⟩ := hp
  obtain ⟨v0_, v1_, v2_, v3_, rfl, h0, h1, h2, h3⟩ := vxs4 hv
  obtain ⟨hE, hat, hlt, hcan, hnet, hsafe⟩ := hc
  have hA0 : (e = "great" ∨ e = "small" ∨ e = "take" ∨ e = "tick") → ActOk s e false := fun h => ⟨by rcases h with h | h | h | h <;> simp [h], fun q => .inl (can_take (q ▸ hcan)), hsafe.dn⟩
  obtain ⟨srv, num, cp, kn, ow, dn, lt⟩ := s
  show DSs _ _ [some v0_, some v1_, some v2_, some v3_, _, _, _, _, _, _, _, _, _] _ _
  (rcases hE with rfl | rfl | rfl | rfl | rfl | rfl | rfl | rfl; rotate_left 5; (rcases hnet with rfl | rfl | rfl | rfl <;> rcases o with ⟨k, a, a1, a2, a3, a4⟩ | ⟨k, z, a, a1, a2⟩ | ⟨k, a, a1, a2, a3⟩ | m | w_ <;> (first | exact absurd rfl (can_unheard hcan).1 | exact Bool.noConfusion (show false = true from done_wr (can_unheard hcan).2) | skip)); rotate_left 6; (rcases hnet with rfl | rfl | rfl | rfl <;> rcases o with ⟨k, a, a1, a2, a3, a4⟩ | ⟨k, z, a, a1, a2⟩ | ⟨k, a, a1, a2, a3⟩ | m | w_ <;> (first | exact absurd rfl (can_unsent hcan).1 | exact Bool.noConfusion (show false = true from (can_unsent hcan).2) | skip)); rotate_left 9; (rcases lt with _ | ⟨j, c, m⟩); exact Bool.noConfusion (show false = true from (can_of (by simp [EvOk]) hat hlt hcan).co rfl)) <;> (
    refine ds_if (dt_cmp (de_v 2 h2) (de_tup (xa_d de_str (xa_d de_str (xa_d de_str (xa_d de_str xa_nil))))) (by first | exact cm_inS F | exact cm_inS F (by assumption) | exact cm_inD F (by first | rfl | exact shaped_cp _) (by first | rfl | assumption))) (fun hb1 H1 e1 => ?_) (fun hb1 H1 e1 => ?_)
    · try first | exact Bool.noConfusion (show false = true from hb1) | exact absurd hb1 (by decide)
      all_goals
        (replace h0 := dp_up (up_of e1) _ _ h0
         replace h1 := dp_up (up_of e1) _ _ h1
         replace h2 := dp_up (up_of e1) _ _ h2
         replace h3 := dp_up (up_of e1) _ _ h3
         replace hq := hq.up e1
         exact ds_ret (de_f F (f_law_behind_act T) (xa_d (de_v 1 h1) (xa_d (de_v 2 h2) (xa_d de_bl xa_nil))) ⟨_, _, _, rfl, (by first | exact hA0 (by simp) | exact act_own hat.2 (can_unheard hcan).2 hsafe.dn | exact act_own (hlt _ _ _ rfl).1.2 (by assumption) hsafe.dn), rfl⟩) hq (by first | rfl | (show _ = (comeD o2 ⟨srv, num, cp, kn, ow, dn, some (j, c, m)⟩ c n).d; (first | rw [comeD_t (o := o2) (s := ⟨srv, num, cp, kn, ow, dn, some (j, c, m)⟩) (c := c) (n := n) hb1] | rw [comeD_f (o := o2) (s := ⟨srv, num, cp, kn, ow, dn, some (j, c, m)⟩) (c := c) (n := n) hb1]); generalize decide (n = "again") = b; cases b <;> rfl)))
    · try first | exact Bool.noConfusion (show true = false from hb1) | exact absurd hb1 (by decide)
      all_goals
        (replace h0 := dp_up (up_of e1) _ _ h0
         replace h1 := dp_up (up_of e1) _ _ h1
         replace h2 := dp_up (up_of e1) _ _ h2
         replace h3 := dp_up (up_of e1) _ _ h3
         replace hq := hq.up e1
         refine ds_if (dt_cmp (de_v 2 h2) de_str (by first | exact cm_eqs | exact cm_eqi | exact cm_eqb | exact cm_eqD F (by first | rfl | exact shaped_cp _ | exact shaped_lt _) (by first | rfl | exact shaped_cp _))) (fun hb2 H2 e2 => ?_) (fun hb2 H2 e2 => ?_)
         · try first | exact Bool.noConfusion (show false = true from hb2) | exact absurd hb2 (by decide)
           all_goals
             (replace h0 := dp_up (up_of e2) _ _ h0
              replace h1 := dp_up (up_of e2) _ _ h1
              replace h2 := dp_up (up_of e2) _ _ h2
              replace h3 := dp_up (up_of e2) _ _ h3
              replace hq := hq.up e2
              exact ds_ret (de_f F (f_law_behind_answer T) (xa_d (de_v 0 h0) (xa_d (de_v 1 h1) xa_nil)) ⟨_, _, _, rfl, ⟨hat, (can_of (by simp [EvOk]) hat hlt hcan).an rfl, hsafe⟩, rfl⟩) hq (by first | rfl | (show _ = (comeD o2 ⟨srv, num, cp, kn, ow, dn, some (j, c, m)⟩ c n).d; (first | rw [comeD_t (o := o2) (s := ⟨srv, num, cp, kn, ow, dn, some (j, c, m)⟩) (c := c) (n := n) hb2] | rw [comeD_f (o := o2) (s := ⟨srv, num, cp, kn, ow, dn, some (j, c, m)⟩) (c := c) (n := n) hb2]); generalize decide (n = "again") = b; cases b <;> rfl)))
         · try first | exact Bool.noConfusion (show true = false from hb2) | exact absurd hb2 (by decide)
           all_goals
             (replace h0 := dp_up (up_of e2) _ _ h0
              replace h1 := dp_up (up_of e2) _ _ h1
              replace h2 := dp_up (up_of e2) _ _ h2
              replace h3 := dp_up (up_of e2) _ _ h3
              replace hq := hq.up e2
              refine ds_unp F (de_v 1 h1) (gn_cons F 5 (gn_cons F 6 (gn_cons F 7 (gn_cons F 8 (gn_cons F 9 (gn_cons F 10 (gn_cons F 4 gn_nil))))))) fun us3 H3 e3 hu3 => ?_
              replace h0 := dp_up (up_of e3) _ _ h0
              replace h1 := dp_up (up_of e3) _ _ h1
              replace h2 := dp_up (up_of e3) _ _ h2
              replace h3 := dp_up (up_of e3) _ _ h3
              replace hq := hq.up e3
              obtain ⟨v5_, v6_, v7_, v8_, v9_, v10_, v4_, rfl, h5, h6, h7, h8, h9, h10, h4⟩ := dpa7 hu3
              show DSs _ _ [some v0_, some v1_, some v2_, some v3_, some v4_, some v5_, some v6_, some v7_, some v8_, some v9_, some v10_, _, _] _ _
              refine ds_if (dt_cmp (de_v 2 h2) de_str (by first | exact cm_eqs | exact cm_eqi | exact cm_eqb | exact cm_eqD F (by first | rfl | exact shaped_cp _ | exact shaped_lt _) (by first | rfl | exact shaped_cp _))) (fun hb4 H4 e4 => ?_) (fun hb4 H4 e4 => ?_)
              · try first | exact Bool.noConfusion (show false = true from hb4) | exact absurd hb4 (by decide)
                all_goals
                  (replace h0 := dp_up (up_of e4) _ _ h0
                   replace h1 := dp_up (up_of e4) _ _ h1
                   replace h2 := dp_up (up_of e4) _ _ h2
                   replace h3 := dp_up (up_of e4) _ _ h3
                   replace h4 := dp_up (up_of e4) _ _ h4
                   replace h5 := dp_up (up_of e4) _ _ h5
                   replace h6 := dp_up (up_of e4) _ _ h6
                   replace h7 := dp_up (up_of e4) _ _ h7
                   replace h8 := dp_up (up_of e4) _ _ h8
                   replace h9 := dp_up (up_of e4) _ _ h9
                   replace h10 := dp_up (up_of e4) _ _ h10
                   replace hq := hq.up e4
                   refine ds_set (F := F) 11 (de_ixT F (de_v 0 h0) (de_ixT F (de_v 4 h4) de_int) ((hlt _ _ _ rfl).1.1)) fun v11_ H5 e5 h11 => ?_
                   replace h0 := dp_up (up_of e5) _ _ h0
                   replace h1 := dp_up (up_of e5) _ _ h1
                   replace h2 := dp_up (up_of e5) _ _ h2
                   replace h3 := dp_up (up_of e5) _ _ h3
                   replace h4 := dp_up (up_of e5) _ _ h4
                   replace h5 := dp_up (up_of e5) _ _ h5
                   replace h6 := dp_up (up_of e5) _ _ h6
                   replace h7 := dp_up (up_of e5) _ _ h7
                   replace h8 := dp_up (up_of e5) _ _ h8
                   replace h9 := dp_up (up_of e5) _ _ h9
                   replace h10 := dp_up (up_of e5) _ _ h10
                   replace hq := hq.up e5
                   show DSs _ _ [some v0_, some v1_, some v2_, some v3_, some v4_, some v5_, some v6_, some v7_, some v8_, some v9_, some v10_, some v11_, _] _ _
                   refine ds_if (dt_e (de_f F (f_law_writes T) (xa_d (de_v 5 h5) (xa_d (de_ixT F (de_v 4 h4) de_int) (xa_d (de_v 11 h11) xa_nil))) ⟨_, _, _, rfl, ⟨(hlt _ _ _ rfl).1.2, hsafe.lc⟩, rfl⟩)) (fun hb6 H6 e6 => ?_) (fun hb6 H6 e6 => ?_)
                   · try first | exact Bool.noConfusion (show false = true from hb6) | exact absurd hb6 (by decide)
                     all_goals
                       (replace h0 := dp_up (up_of e6) _ _ h0
                        replace h1 := dp_up (up_of e6) _ _ h1
                        replace h2 := dp_up (up_of e6) _ _ h2
                        replace h3 := dp_up (up_of e6) _ _ h3
                        replace h4 := dp_up (up_of e6) _ _ h4
                        replace h5 := dp_up (up_of e6) _ _ h5
                        replace h6 := dp_up (up_of e6) _ _ h6
                        replace h7 := dp_up (up_of e6) _ _ h7
                        replace h8 := dp_up (up_of e6) _ _ h8
                        replace h9 := dp_up (up_of e6) _ _ h9
                        replace h10 := dp_up (up_of e6) _ _ h10
                        replace h11 := dp_up (up_of e6) _ _ h11
                        replace hq := hq.up e6
                        refine ds_set (F := F) 1 (by first | exact DE.is (de_f F (f_law_behind_act T) (xa_d (de_v 1 h1) (xa_d (de_f F (f_law_act_of T) (xa_d (de_v 11 h11) xa_nil) ⟨_, rfl, by first | trivial | assumption | omega | decide | simp_all, rfl⟩) (xa_d de_bl xa_nil))) ⟨_, _, _, rfl, (by first | exact hA0 (by simp) | exact act_own hat.2 (can_unheard hcan).2 hsafe.dn | exact act_own (hlt _ _ _ rfl).1.2 (by assumption) hsafe.dn), rfl⟩) (act_d hat.2 (done_wr (can_unheard hcan).2)) | exact DE.is (de_f F (f_law_behind_act T) (xa_d (de_v 1 h1) (xa_d (de_f F (f_law_act_of T) (xa_d (de_v 11 h11) xa_nil) ⟨_, rfl, by first | trivial | assumption | omega | decide | simp_all, rfl⟩) (xa_d de_bl xa_nil))) ⟨_, _, _, rfl, (by first | exact hA0 (by simp) | exact act_own hat.2 (can_unheard hcan).2 hsafe.dn | exact act_own (hlt _ _ _ rfl).1.2 (by assumption) hsafe.dn), rfl⟩) (act_d (hlt _ _ _ rfl).1.2 (hlt _ _ _ rfl).2)) fun v1_ H7 e7 h1 => ?_
                        replace h0 := dp_up (up_of e7) _ _ h0
                        replace h2 := dp_up (up_of e7) _ _ h2
                        replace h3 := dp_up (up_of e7) _ _ h3
                        replace h4 := dp_up (up_of e7) _ _ h4
                        replace h5 := dp_up (up_of e7) _ _ h5
                        replace h6 := dp_up (up_of e7) _ _ h6
                        replace h7 := dp_up (up_of e7) _ _ h7
                        replace h8 := dp_up (up_of e7) _ _ h8
                        replace h9 := dp_up (up_of e7) _ _ h9
                        replace h10 := dp_up (up_of e7) _ _ h10
                        replace h11 := dp_up (up_of e7) _ _ h11
                        replace hq := hq.up e7
                        show DSs _ _ [some v0_, some v1_, some v2_, some v3_, some v4_, some v5_, some v6_, some v7_, some v8_, some v9_, some v10_, some v11_, _] _ _
                        refine ds_nil ?_
                        show DSs _ _ _ _ _
                        exact ds_ret (de_catT F (de_slT F (de_v 1 h1) oe_none (oe_some (K := K) de_int)) (de_tup (xa_d (de_if (dt_cmp (de_v 3 h3) de_str (by first | exact cm_eqs | exact cm_eqi | exact cm_eqb | exact cm_eqD F (by first | rfl | exact shaped_cp _ | exact shaped_lt _) (by first | rfl | exact shaped_cp _))) (fun hb8 => (de_ixT F (de_v 1 h1) de_int)) fun hb8 => (de_tup xa_nil)) xa_nil))) hq (by first | rfl | (show _ = (comeD o2 ⟨srv, num, cp, kn, ow, dn, some (j, c, m)⟩ c n).d; (first | rw [comeD_t (o := o2) (s := ⟨srv, num, cp, kn, ow, dn, some (j, c, m)⟩) (c := c) (n := n) hb6] | rw [comeD_f (o := o2) (s := ⟨srv, num, cp, kn, ow, dn, some (j, c, m)⟩) (c := c) (n := n) hb6]); generalize decide (n = "again") = b; cases b <;> rfl)))
                   · try first | exact Bool.noConfusion (show true = false from hb6) | exact absurd hb6 (by decide)
                     all_goals
                       (replace h0 := dp_up (up_of e6) _ _ h0
                        replace h1 := dp_up (up_of e6) _ _ h1
                        replace h2 := dp_up (up_of e6) _ _ h2
                        replace h3 := dp_up (up_of e6) _ _ h3
                        replace h4 := dp_up (up_of e6) _ _ h4
                        replace h5 := dp_up (up_of e6) _ _ h5
                        replace h6 := dp_up (up_of e6) _ _ h6
                        replace h7 := dp_up (up_of e6) _ _ h7
                        replace h8 := dp_up (up_of e6) _ _ h8
                        replace h9 := dp_up (up_of e6) _ _ h9
                        replace h10 := dp_up (up_of e6) _ _ h10
                        replace h11 := dp_up (up_of e6) _ _ h11
                        replace hq := hq.up e6
                        exact ds_ret (de_catT F (de_slT F (de_v 1 h1) oe_none (oe_some (K := K) de_int)) (de_tup (xa_d (de_if (dt_cmp (de_v 3 h3) de_str (by first | exact cm_eqs | exact cm_eqi | exact cm_eqb | exact cm_eqD F (by first | rfl | exact shaped_cp _ | exact shaped_lt _) (by first | rfl | exact shaped_cp _))) (fun hb9 => (de_ixT F (de_v 1 h1) de_int)) fun hb9 => (de_tup xa_nil)) xa_nil))) hq (by first | rfl | (show _ = (comeD o2 ⟨srv, num, cp, kn, ow, dn, some (j, c, m)⟩ c n).d; (first | rw [comeD_t (o := o2) (s := ⟨srv, num, cp, kn, ow, dn, some (j, c, m)⟩) (c := c) (n := n) hb6] | rw [comeD_f (o := o2) (s := ⟨srv, num, cp, kn, ow, dn, some (j, c, m)⟩) (c := c) (n := n) hb6]); generalize decide (n = "again") = b; cases b <;> rfl))))
              · try first | exact Bool.noConfusion (show true = false from hb4) | exact absurd hb4 (by decide)
                all_goals
                  (replace h0 := dp_up (up_of e4) _ _ h0
                   replace h1 := dp_up (up_of e4) _ _ h1
                   replace h2 := dp_up (up_of e4) _ _ h2
                   replace h3 := dp_up (up_of e4) _ _ h3
                   replace h4 := dp_up (up_of e4) _ _ h4
                   replace h5 := dp_up (up_of e4) _ _ h5
                   replace h6 := dp_up (up_of e4) _ _ h6
                   replace h7 := dp_up (up_of e4) _ _ h7
                   replace h8 := dp_up (up_of e4) _ _ h8
                   replace h9 := dp_up (up_of e4) _ _ h9
                   replace h10 := dp_up (up_of e4) _ _ h10
                   replace hq := hq.up e4
                   refine ds_par (jx := 11) (jy := 12) F (DE.toX (de_ixT F (de_v 0 h0) (de_v 6 h6) (hat.1))) (DE.toX (DE.is (de_intb F (n_int T) (de_or (de_cmp (de_v 8 h8) de_int (by first | exact cm_eqs | exact cm_eqi | exact cm_eqb | exact cm_eqD F (by first | rfl | exact shaped_cp _ | exact shaped_lt _) (by first | rfl | exact shaped_cp _))) fun hb11 => (de_one (de_cmp (de_v 9 h9) de_int (by first | exact cm_eqs | exact cm_eqi | exact cm_eqb | exact cm_eqD F (by first | rfl | exact shaped_cp _ | exact shaped_lt _) (by first | rfl | exact shaped_cp _)))))) (sentM_eq ⟨srv, num, cp, kn, ow, dn, lt⟩))) fun v11_ v12_ H10 e10 h11 h12 => ?_
                   replace h0 := dp_up (up_of e10) _ _ h0
                   replace h1 := dp_up (up_of e10) _ _ h1
                   replace h2 := dp_up (up_of e10) _ _ h2
                   replace h3 := dp_up (up_of e10) _ _ h3
                   replace h4 := dp_up (up_of e10) _ _ h4
                   replace h5 := dp_up (up_of e10) _ _ h5
                   replace h6 := dp_up (up_of e10) _ _ h6
                   replace h7 := dp_up (up_of e10) _ _ h7
                   replace h8 := dp_up (up_of e10) _ _ h8
                   replace h9 := dp_up (up_of e10) _ _ h9
                   replace h10 := dp_up (up_of e10) _ _ h10
                   replace hq := hq.up e10
                   show DSs _ _ [some v0_, some v1_, some v2_, some v3_, some v4_, some v5_, some v6_, some v7_, some v8_, some v9_, some v10_, some v11_, some v12_] _ _
                   refine ds_if (dt_cmp (de_v 2 h2) de_str (by first | exact cm_eqs | exact cm_eqi | exact cm_eqb | exact cm_eqD F (by first | rfl | exact shaped_cp _ | exact shaped_lt _) (by first | rfl | exact shaped_cp _))) (fun hb12 H12 e12 => ?_) (fun hb12 H12 e12 => ?_)
                   · try first | exact Bool.noConfusion (show false = true from hb12) | exact absurd hb12 (by decide)
                     all_goals
                       (replace h0 := dp_up (up_of e12) _ _ h0
                        replace h1 := dp_up (up_of e12) _ _ h1
                        replace h2 := dp_up (up_of e12) _ _ h2
                        replace h3 := dp_up (up_of e12) _ _ h3
                        replace h4 := dp_up (up_of e12) _ _ h4
                        replace h5 := dp_up (up_of e12) _ _ h5
                        replace h6 := dp_up (up_of e12) _ _ h6
                        replace h7 := dp_up (up_of e12) _ _ h7
                        replace h8 := dp_up (up_of e12) _ _ h8
                        replace h9 := dp_up (up_of e12) _ _ h9
                        replace h10 := dp_up (up_of e12) _ _ h10
                        replace h11 := dp_up (up_of e12) _ _ h11
                        replace h12 := dp_up (up_of e12) _ _ h12
                        replace hq := hq.up e12
                        refine ds_set (F := F) 1 (by first | exact DE.is (de_f F (f_law_behind_act T) (xa_d (de_v 1 h1) (xa_d (de_f F (f_law_act_of T) (xa_d (de_v 11 h11) xa_nil) ⟨_, rfl, by first | trivial | assumption | omega | decide | simp_all, rfl⟩) (xa_d de_bl xa_nil))) ⟨_, _, _, rfl, (by first | exact hA0 (by simp) | exact act_own hat.2 (can_unheard hcan).2 hsafe.dn | exact act_own (hlt _ _ _ rfl).1.2 (by assumption) hsafe.dn), rfl⟩) (act_d hat.2 (done_wr (can_unheard hcan).2)) | exact DE.is (de_f F (f_law_behind_act T) (xa_d (de_v 1 h1) (xa_d (de_f F (f_law_act_of T) (xa_d (de_v 11 h11) xa_nil) ⟨_, rfl, by first | trivial | assumption | omega | decide | simp_all, rfl⟩) (xa_d de_bl xa_nil))) ⟨_, _, _, rfl, (by first | exact hA0 (by simp) | exact act_own hat.2 (can_unheard hcan).2 hsafe.dn | exact act_own (hlt _ _ _ rfl).1.2 (by assumption) hsafe.dn), rfl⟩) (act_d (hlt _ _ _ rfl).1.2 (hlt _ _ _ rfl).2)) fun v1_ H13 e13 h1 => ?_
                        replace h0 := dp_up (up_of e13) _ _ h0
                        replace h2 := dp_up (up_of e13) _ _ h2
                        replace h3 := dp_up (up_of e13) _ _ h3
                        replace h4 := dp_up (up_of e13) _ _ h4
                        replace h5 := dp_up (up_of e13) _ _ h5
                        replace h6 := dp_up (up_of e13) _ _ h6
                        replace h7 := dp_up (up_of e13) _ _ h7
                        replace h8 := dp_up (up_of e13) _ _ h8
                        replace h9 := dp_up (up_of e13) _ _ h9
                        replace h10 := dp_up (up_of e13) _ _ h10
                        replace h11 := dp_up (up_of e13) _ _ h11
                        replace h12 := dp_up (up_of e13) _ _ h12
                        replace hq := hq.up e13
                        show DSs _ _ [some v0_, some v1_, some v2_, some v3_, some v4_, some v5_, some v6_, some v7_, some v8_, some v9_, some v10_, some v11_, some v12_] _ _
                        refine ds_nil ?_
                        show DSs _ _ _ _ _
                        refine ds_set (F := F) 4 (de_ixT F (de_v 1 h1) de_int) fun v4_ H14 e14 h4 => ?_
                        replace h0 := dp_up (up_of e14) _ _ h0
                        replace h1 := dp_up (up_of e14) _ _ h1
                        replace h2 := dp_up (up_of e14) _ _ h2
                        replace h3 := dp_up (up_of e14) _ _ h3
                        replace h5 := dp_up (up_of e14) _ _ h5
                        replace h6 := dp_up (up_of e14) _ _ h6
                        replace h7 := dp_up (up_of e14) _ _ h7
                        replace h8 := dp_up (up_of e14) _ _ h8
                        replace h9 := dp_up (up_of e14) _ _ h9
                        replace h10 := dp_up (up_of e14) _ _ h10
                        replace h11 := dp_up (up_of e14) _ _ h11
                        replace h12 := dp_up (up_of e14) _ _ h12
                        replace hq := hq.up e14
                        show DSs _ _ [some v0_, some v1_, some v2_, some v3_, some v4_, some v5_, some v6_, some v7_, some v8_, some v9_, some v10_, some v11_, some v12_] _ _
                        refine ds_if (dt_w (dw_and (dt_cmp (de_ixT F (de_v 11 h11) de_int) de_str (by first | exact cm_nes | exact cm_nei | exact cm_neD F (by first | rfl | exact shaped_cp _ | exact shaped_lt _) (by first | rfl | exact shaped_cp _))) fun hb18 => (dw_one_and (dt_w (dw_or (dt_cmp (de_v 3 h3) de_str (by first | exact cm_eqs | exact cm_eqi | exact cm_eqb | exact cm_eqD F (by first | rfl | exact shaped_cp _ | exact shaped_lt _) (by first | rfl | exact shaped_cp _))) fun hb17 => (dw_one_or (dt_w (dw_and (dt_cmp (de_v 3 h3) de_str (by first | exact cm_eqs | exact cm_eqi | exact cm_eqb | exact cm_eqD F (by first | rfl | exact shaped_cp _ | exact shaped_lt _) (by first | rfl | exact shaped_cp _))) fun hb16 => (dw_one_and (dt_cmp (de_v 2 h2) de_str (by first | exact cm_eqs | exact cm_eqi | exact cm_eqb | exact cm_eqD F (by first | rfl | exact shaped_cp _ | exact shaped_lt _) (by first | rfl | exact shaped_cp _)))))))))))) (fun hb15 H15 e15 => ?_) (fun hb15 H15 e15 => ?_)
                        · try first | exact Bool.noConfusion (show false = true from hb15) | exact absurd hb15 (by decide)
                          all_goals
                            (replace h0 := dp_up (up_of e15) _ _ h0
                             replace h1 := dp_up (up_of e15) _ _ h1
                             replace h2 := dp_up (up_of e15) _ _ h2
                             replace h3 := dp_up (up_of e15) _ _ h3
                             replace h4 := dp_up (up_of e15) _ _ h4
                             replace h5 := dp_up (up_of e15) _ _ h5
                             replace h6 := dp_up (up_of e15) _ _ h6
                             replace h7 := dp_up (up_of e15) _ _ h7
                             replace h8 := dp_up (up_of e15) _ _ h8
                             replace h9 := dp_up (up_of e15) _ _ h9
                             replace h10 := dp_up (up_of e15) _ _ h10
                             replace h11 := dp_up (up_of e15) _ _ h11
                             replace h12 := dp_up (up_of e15) _ _ h12
                             replace hq := hq.up e15
                             refine ds_set (F := F) 4 (de_tup (xa_d (de_v 6 h6) (xa_d (de_ixT F (de_v 1 h1) de_int) (xa_d (de_v 12 h12) xa_nil)))) fun v4_ H19 e19 h4 => ?_
                             replace h0 := dp_up (up_of e19) _ _ h0
                             replace h1 := dp_up (up_of e19) _ _ h1
                             replace h2 := dp_up (up_of e19) _ _ h2
                             replace h3 := dp_up (up_of e19) _ _ h3
                             replace h5 := dp_up (up_of e19) _ _ h5
                             replace h6 := dp_up (up_of e19) _ _ h6
                             replace h7 := dp_up (up_of e19) _ _ h7
                             replace h8 := dp_up (up_of e19) _ _ h8
                             replace h9 := dp_up (up_of e19) _ _ h9
                             replace h10 := dp_up (up_of e19) _ _ h10
                             replace h11 := dp_up (up_of e19) _ _ h11
                             replace h12 := dp_up (up_of e19) _ _ h12
                             replace hq := hq.up e19
                             show DSs _ _ [some v0_, some v1_, some v2_, some v3_, some v4_, some v5_, some v6_, some v7_, some v8_, some v9_, some v10_, some v11_, some v12_] _ _
                             refine ds_nil ?_
                             show DSs _ _ _ _ _
                             exact ds_ret (de_catT F (de_catT F (de_tup (xa_d (de_ixT F (de_v 1 h1) de_int) (xa_d (de_f F (f_law_next_step T) (xa_d (de_v 11 h11) (xa_d de_str xa_nil)) ⟨_, _, rfl, by simp [AnsOk], rfl⟩) xa_nil))) (de_slT F (de_v 1 h1) (oe_some (K := K) de_int) (oe_some (K := K) de_int))) (de_tup (xa_d (de_v 4 h4) xa_nil))) hq (by first | rfl | (show _ = (comeD o2 ⟨srv, num, cp, kn, ow, dn, some (j, c, m)⟩ c n).d; (first | rw [comeD_t (o := o2) (s := ⟨srv, num, cp, kn, ow, dn, some (j, c, m)⟩) (c := c) (n := n) hb15] | rw [comeD_f (o := o2) (s := ⟨srv, num, cp, kn, ow, dn, some (j, c, m)⟩) (c := c) (n := n) hb15]); generalize decide (n = "again") = b; cases b <;> rfl)))
                        · try first | exact Bool.noConfusion (show true = false from hb15) | exact absurd hb15 (by decide)
                          all_goals
                            (replace h0 := dp_up (up_of e15) _ _ h0
                             replace h1 := dp_up (up_of e15) _ _ h1
                             replace h2 := dp_up (up_of e15) _ _ h2
                             replace h3 := dp_up (up_of e15) _ _ h3
                             replace h4 := dp_up (up_of e15) _ _ h4
                             replace h5 := dp_up (up_of e15) _ _ h5
                             replace h6 := dp_up (up_of e15) _ _ h6
                             replace h7 := dp_up (up_of e15) _ _ h7
                             replace h8 := dp_up (up_of e15) _ _ h8
                             replace h9 := dp_up (up_of e15) _ _ h9
                             replace h10 := dp_up (up_of e15) _ _ h10
                             replace h11 := dp_up (up_of e15) _ _ h11
                             replace h12 := dp_up (up_of e15) _ _ h12
                             replace hq := hq.up e15
                             exact ds_ret (de_catT F (de_catT F (de_tup (xa_d (de_ixT F (de_v 1 h1) de_int) (xa_d (de_f F (f_law_next_step T) (xa_d (de_v 11 h11) (xa_d de_str xa_nil)) ⟨_, _, rfl, by simp [AnsOk], rfl⟩) xa_nil))) (de_slT F (de_v 1 h1) (oe_some (K := K) de_int) (oe_some (K := K) de_int))) (de_tup (xa_d (de_v 4 h4) xa_nil))) hq (by first | rfl | (show _ = (comeD o2 ⟨srv, num, cp, kn, ow, dn, some (j, c, m)⟩ c n).d; (first | rw [comeD_t (o := o2) (s := ⟨srv, num, cp, kn, ow, dn, some (j, c, m)⟩) (c := c) (n := n) hb15] | rw [comeD_f (o := o2) (s := ⟨srv, num, cp, kn, ow, dn, some (j, c, m)⟩) (c := c) (n := n) hb15]); generalize decide (n = "again") = b; cases b <;> rfl))))
                   · try first | exact Bool.noConfusion (show true = false from hb12) | exact absurd hb12 (by decide)
                     all_goals
                       (replace h0 := dp_up (up_of e12) _ _ h0
                        replace h1 := dp_up (up_of e12) _ _ h1
                        replace h2 := dp_up (up_of e12) _ _ h2
                        replace h3 := dp_up (up_of e12) _ _ h3
                        replace h4 := dp_up (up_of e12) _ _ h4
                        replace h5 := dp_up (up_of e12) _ _ h5
                        replace h6 := dp_up (up_of e12) _ _ h6
                        replace h7 := dp_up (up_of e12) _ _ h7
                        replace h8 := dp_up (up_of e12) _ _ h8
                        replace h9 := dp_up (up_of e12) _ _ h9
                        replace h10 := dp_up (up_of e12) _ _ h10
                        replace h11 := dp_up (up_of e12) _ _ h11
                        replace h12 := dp_up (up_of e12) _ _ h12
                        replace hq := hq.up e12
                        refine ds_set (F := F) 4 (de_ixT F (de_v 1 h1) de_int) fun v4_ H20 e20 h4 => ?_
                        replace h0 := dp_up (up_of e20) _ _ h0
                        replace h1 := dp_up (up_of e20) _ _ h1
                        replace h2 := dp_up (up_of e20) _ _ h2
                        replace h3 := dp_up (up_of e20) _ _ h3
                        replace h5 := dp_up (up_of e20) _ _ h5
                        replace h6 := dp_up (up_of e20) _ _ h6
                        replace h7 := dp_up (up_of e20) _ _ h7
                        replace h8 := dp_up (up_of e20) _ _ h8
                        replace h9 := dp_up (up_of e20) _ _ h9
                        replace h10 := dp_up (up_of e20) _ _ h10
                        replace h11 := dp_up (up_of e20) _ _ h11
                        replace h12 := dp_up (up_of e20) _ _ h12
                        replace hq := hq.up e20
                        show DSs _ _ [some v0_, some v1_, some v2_, some v3_, some v4_, some v5_, some v6_, some v7_, some v8_, some v9_, some v10_, some v11_, some v12_] _ _
                        refine ds_if (dt_w (dw_and (dt_cmp (de_ixT F (de_v 11 h11) de_int) de_str (by first | exact cm_nes | exact cm_nei | exact cm_neD F (by first | rfl | exact shaped_cp _ | exact shaped_lt _) (by first | rfl | exact shaped_cp _))) fun hb24 => (dw_one_and (dt_w (dw_or (dt_cmp (de_v 3 h3) de_str (by first | exact cm_eqs | exact cm_eqi | exact cm_eqb | exact cm_eqD F (by first | rfl | exact shaped_cp _ | exact shaped_lt _) (by first | rfl | exact shaped_cp _))) fun hb23 => (dw_one_or (dt_w (dw_and (dt_cmp (de_v 3 h3) de_str (by first | exact cm_eqs | exact cm_eqi | exact cm_eqb | exact cm_eqD F (by first | rfl | exact shaped_cp _ | exact shaped_lt _) (by first | rfl | exact shaped_cp _))) fun hb22 => (dw_one_and (dt_cmp (de_v 2 h2) de_str (by first | exact cm_eqs | exact cm_eqi | exact cm_eqb | exact cm_eqD F (by first | rfl | exact shaped_cp _ | exact shaped_lt _) (by first | rfl | exact shaped_cp _)))))))))))) (fun hb21 H21 e21 => ?_) (fun hb21 H21 e21 => ?_)
                        · try first | exact Bool.noConfusion (show false = true from hb21) | exact absurd hb21 (by decide)
                          all_goals
                            (replace h0 := dp_up (up_of e21) _ _ h0
                             replace h1 := dp_up (up_of e21) _ _ h1
                             replace h2 := dp_up (up_of e21) _ _ h2
                             replace h3 := dp_up (up_of e21) _ _ h3
                             replace h4 := dp_up (up_of e21) _ _ h4
                             replace h5 := dp_up (up_of e21) _ _ h5
                             replace h6 := dp_up (up_of e21) _ _ h6
                             replace h7 := dp_up (up_of e21) _ _ h7
                             replace h8 := dp_up (up_of e21) _ _ h8
                             replace h9 := dp_up (up_of e21) _ _ h9
                             replace h10 := dp_up (up_of e21) _ _ h10
                             replace h11 := dp_up (up_of e21) _ _ h11
                             replace h12 := dp_up (up_of e21) _ _ h12
                             replace hq := hq.up e21
                             refine ds_set (F := F) 4 (de_tup (xa_d (de_v 6 h6) (xa_d (de_ixT F (de_v 1 h1) de_int) (xa_d (de_v 12 h12) xa_nil)))) fun v4_ H25 e25 h4 => ?_
                             replace h0 := dp_up (up_of e25) _ _ h0
                             replace h1 := dp_up (up_of e25) _ _ h1
                             replace h2 := dp_up (up_of e25) _ _ h2
                             replace h3 := dp_up (up_of e25) _ _ h3
                             replace h5 := dp_up (up_of e25) _ _ h5
                             replace h6 := dp_up (up_of e25) _ _ h6
                             replace h7 := dp_up (up_of e25) _ _ h7
                             replace h8 := dp_up (up_of e25) _ _ h8
                             replace h9 := dp_up (up_of e25) _ _ h9
                             replace h10 := dp_up (up_of e25) _ _ h10
                             replace h11 := dp_up (up_of e25) _ _ h11
                             replace h12 := dp_up (up_of e25) _ _ h12
                             replace hq := hq.up e25
                             show DSs _ _ [some v0_, some v1_, some v2_, some v3_, some v4_, some v5_, some v6_, some v7_, some v8_, some v9_, some v10_, some v11_, some v12_] _ _
                             refine ds_nil ?_
                             show DSs _ _ _ _ _
                             exact ds_ret (de_catT F (de_catT F (de_tup (xa_d (de_ixT F (de_v 1 h1) de_int) (xa_d (de_f F (f_law_next_step T) (xa_d (de_v 11 h11) (xa_d de_str xa_nil)) ⟨_, _, rfl, by simp [AnsOk], rfl⟩) xa_nil))) (de_slT F (de_v 1 h1) (oe_some (K := K) de_int) (oe_some (K := K) de_int))) (de_tup (xa_d (de_v 4 h4) xa_nil))) hq (by first | rfl | (show _ = (comeD o2 ⟨srv, num, cp, kn, ow, dn, some (j, c, m)⟩ c n).d; (first | rw [comeD_t (o := o2) (s := ⟨srv, num, cp, kn, ow, dn, some (j, c, m)⟩) (c := c) (n := n) hb21] | rw [comeD_f (o := o2) (s := ⟨srv, num, cp, kn, ow, dn, some (j, c, m)⟩) (c := c) (n := n) hb21]); generalize decide (n = "again") = b; cases b <;> rfl)))
                        · try first | exact Bool.noConfusion (show true = false from hb21) | exact absurd hb21 (by decide)
                          all_goals
                            (replace h0 := dp_up (up_of e21) _ _ h0
                             replace h1 := dp_up (up_of e21) _ _ h1
                             replace h2 := dp_up (up_of e21) _ _ h2
                             replace h3 := dp_up (up_of e21) _ _ h3
                             replace h4 := dp_up (up_of e21) _ _ h4
                             replace h5 := dp_up (up_of e21) _ _ h5
                             replace h6 := dp_up (up_of e21) _ _ h6
                             replace h7 := dp_up (up_of e21) _ _ h7
                             replace h8 := dp_up (up_of e21) _ _ h8
                             replace h9 := dp_up (up_of e21) _ _ h9
                             replace h10 := dp_up (up_of e21) _ _ h10
                             replace h11 := dp_up (up_of e21) _ _ h11
                             replace h12 := dp_up (up_of e21) _ _ h12
                             replace hq := hq.up e21
                             exact ds_ret (de_catT F (de_catT F (de_tup (xa_d (de_ixT F (de_v 1 h1) de_int) (xa_d (de_f F (f_law_next_step T) (xa_d (de_v 11 h11) (xa_d de_str xa_nil)) ⟨_, _, rfl, by simp [AnsOk], rfl⟩) xa_nil))) (de_slT F (de_v 1 h1) (oe_some (K := K) de_int) (oe_some (K := K) de_int))) (de_tup (xa_d (de_v 4 h4) xa_nil))) hq (by first | rfl | (show _ = (comeD o2 ⟨srv, num, cp, kn, ow, dn, some (j, c, m)⟩ c n).d; (first | rw [comeD_t (o := o2) (s := ⟨srv, num, cp, kn, ow, dn, some (j, c, m)⟩) (c := c) (n := n) hb21] | rw [comeD_f (o := o2) (s := ⟨srv, num, cp, kn, ow, dn, some (j, c, m)⟩) (c := c) (n := n) hb21]); generalize decide (n = "again") = b; cases b <;> rfl))))))))
def pre_law_own_fault (xs : List Dx) (r : PyData) : Prop := ∃ (ss : List PyData) (s : StD) (o : Stp) (o2 : Stp) (e : Str) (p : Str), xs = [.d (.tuple ss), .d (s.d), .d (.str e), .d (.str p)] ∧ (Can ss s o o2 e ∧ SafeS s) ∧ r = .bool (faultIn o o2 s e p)
theorem f_law_own_fault : FnC P w K mg base 3 "_law_own_fault" (Spf K pre_law_own_fault) := by
  refine fnC_pure (N := ["_law_steps", "_law_state", "_law_event", "_law_promise", "_law_one", "_law_server", "_law_at", "_law_copy", "_law_known", "_law_own", "_law_done", "_law_late"]) (ps := ["_law_steps", "_law_state", "_law_event", "_law_promise"]) (h_law_own_fault T) (m_law_own_fault T) ⟨rfl, rfl, rfl, by decide +kernel, rfl, by decide +kernel, by decide +kernel⟩ (fun _ _ _ _ _ _ us hl => match us, hl with | [_, _, _, _], _ => rfl) (fun xs r h => by
    obtain ⟨_, _, _, _, _, _, rfl, _⟩ := h
    rfl) ?_
  intro Y cdv A outer s_ H vs xs r Q E hY F hv hp hq
  subst hY
  obtain ⟨ss, s, o, o2, e, p, rfl, hc, rfl⟩ := hp
  obtain ⟨v0_, v1_, v2_, v3_, rfl, h0, h1, h2, h3⟩ := vxs4 hv
  obtain ⟨hc, hsafe⟩ := hc
  have hE := hc.ev
  obtain ⟨srv, num, cp, kn, ow, dn, lt⟩ := s
  show DSs _ _ [some v0_, some v1_, some v2_, some v3_, _, _, _, _, _, _, _, _] _ _
  (rcases hE with rfl | rfl | rfl | rfl | rfl | rfl | rfl | rfl; rotate_left 4; (rcases o with ⟨k, a, a1, a2, a3, a4⟩ | ⟨k, z, a, a1, a2⟩ | ⟨k, a, a1, a2, a3⟩ | m' | w_); rotate_left 5; (rcases o with ⟨k, a, a1, a2, a3, a4⟩ | ⟨k, z, a, a1, a2⟩ | ⟨k, a, a1, a2, a3⟩ | m' | w_); rotate_left 6; rcases lt with _ | ⟨j, c, m⟩; exact Bool.noConfusion (show false = true from hc.co rfl); (rcases o2 with ⟨k, a, a1, a2, a3, a4⟩ | ⟨k, z, a, a1, a2⟩ | ⟨k, a, a1, a2, a3⟩ | m' | w_)) <;> (
    refine ds_unp F (de_v 1 h1) (gn_cons F 5 (gn_cons F 6 (gn_cons F 7 (gn_cons F 8 (gn_cons F 9 (gn_cons F 10 (gn_cons F 11 gn_nil))))))) fun us1 H1 e1 hu1 => ?_
    replace h0 := dp_up (up_of e1) _ _ h0
    replace h1 := dp_up (up_of e1) _ _ h1
    replace h2 := dp_up (up_of e1) _ _ h2
    replace h3 := dp_up (up_of e1) _ _ h3
    replace hq := hq.up e1
    obtain ⟨v5_, v6_, v7_, v8_, v9_, v10_, v11_, rfl, h5, h6, h7, h8, h9, h10, h11⟩ := dpa7 hu1
    show DSs _ _ [some v0_, some v1_, some v2_, some v3_, _, some v5_, some v6_, some v7_, some v8_, some v9_, some v10_, some v11_] _ _
    refine ds_set (F := F) 4 (de_ixT F (de_v 0 h0) (de_v 6 h6) (hc.at1.1)) fun v4_ H2 e2 h4 => ?_
    replace h0 := dp_up (up_of e2) _ _ h0
    replace h1 := dp_up (up_of e2) _ _ h1
    replace h2 := dp_up (up_of e2) _ _ h2
    replace h3 := dp_up (up_of e2) _ _ h3
    replace h5 := dp_up (up_of e2) _ _ h5
    replace h6 := dp_up (up_of e2) _ _ h6
    replace h7 := dp_up (up_of e2) _ _ h7
    replace h8 := dp_up (up_of e2) _ _ h8
    replace h9 := dp_up (up_of e2) _ _ h9
    replace h10 := dp_up (up_of e2) _ _ h10
    replace h11 := dp_up (up_of e2) _ _ h11
    replace hq := hq.up e2
    show DSs _ _ [some v0_, some v1_, some v2_, some v3_, some v4_, some v5_, some v6_, some v7_, some v8_, some v9_, some v10_, some v11_] _ _
    refine ds_if (dt_cmp (de_v 2 h2) de_str (by first | exact cm_eqs | exact cm_eqi | exact cm_eqb | exact cm_eqD F (by first | rfl | exact shaped_cp _ | exact shaped_lt _) (by first | rfl | exact shaped_cp _))) (fun hb3 H3 e3 => ?_) (fun hb3 H3 e3 => ?_)
    · try first | exact Bool.noConfusion (show false = true from hb3) | exact absurd hb3 (by decide)
      all_goals
        (replace h0 := dp_up (up_of e3) _ _ h0
         replace h1 := dp_up (up_of e3) _ _ h1
         replace h2 := dp_up (up_of e3) _ _ h2
         replace h3 := dp_up (up_of e3) _ _ h3
         replace h4 := dp_up (up_of e3) _ _ h4
         replace h5 := dp_up (up_of e3) _ _ h5
         replace h6 := dp_up (up_of e3) _ _ h6
         replace h7 := dp_up (up_of e3) _ _ h7
         replace h8 := dp_up (up_of e3) _ _ h8
         replace h9 := dp_up (up_of e3) _ _ h9
         replace h10 := dp_up (up_of e3) _ _ h10
         replace h11 := dp_up (up_of e3) _ _ h11
         replace hq := hq.up e3
         refine ds_par3 (jx := 4) (jy := 7) (jz := 8) F (DE.toX (de_ixT F (de_v 0 h0) (de_ixT F (de_v 11 h11) de_int) ((hc.at2 _ _ _ rfl).1.1))) (DE.toX (de_ixT F (de_v 11 h11) de_int)) (DE.toX (de_ixT F (de_v 11 h11) de_int)) fun v4_ v7_ v8_ H4 e4 h4 h7 h8 => ?_
         replace h0 := dp_up (up_of e4) _ _ h0
         replace h1 := dp_up (up_of e4) _ _ h1
         replace h2 := dp_up (up_of e4) _ _ h2
         replace h3 := dp_up (up_of e4) _ _ h3
         replace h5 := dp_up (up_of e4) _ _ h5
         replace h6 := dp_up (up_of e4) _ _ h6
         replace h9 := dp_up (up_of e4) _ _ h9
         replace h10 := dp_up (up_of e4) _ _ h10
         replace h11 := dp_up (up_of e4) _ _ h11
         replace hq := hq.up e4
         show DSs _ _ [some v0_, some v1_, some v2_, some v3_, some v4_, some v5_, some v6_, some v7_, some v8_, some v9_, some v10_, some v11_] _ _
         refine ds_nil ?_
         show DSs _ _ _ _ _
         refine ds_if (dt_w (dw_or (dt_cmp (de_v 2 h2) (de_tup (xa_d de_str (xa_d de_str (xa_d de_str xa_nil)))) (by first | exact cm_niS F | exact cm_niS F (by assumption))) fun hb7 => (dw_or (dt_cmp (de_v 8 h8) de_int (by first | exact cm_eqs | exact cm_eqi | exact cm_eqb | exact cm_eqD F (by first | rfl | exact shaped_cp _ | exact shaped_lt _) (by first | rfl | exact shaped_cp _))) fun hb6 => (dw_one_or (dt_cmp (de_v 9 h9) de_int (by first | exact cm_eqs | exact cm_eqi | exact cm_eqb | exact cm_eqD F (by first | rfl | exact shaped_cp _ | exact shaped_lt _) (by first | rfl | exact shaped_cp _))))))) (fun hb5 H5 e5 => ?_) (fun hb5 H5 e5 => ?_)
         · try first | exact Bool.noConfusion (show false = true from hb5) | exact absurd hb5 (by decide)
           all_goals
             (replace h0 := dp_up (up_of e5) _ _ h0
              replace h1 := dp_up (up_of e5) _ _ h1
              replace h2 := dp_up (up_of e5) _ _ h2
              replace h3 := dp_up (up_of e5) _ _ h3
              replace h4 := dp_up (up_of e5) _ _ h4
              replace h5 := dp_up (up_of e5) _ _ h5
              replace h6 := dp_up (up_of e5) _ _ h6
              replace h7 := dp_up (up_of e5) _ _ h7
              replace h8 := dp_up (up_of e5) _ _ h8
              replace h9 := dp_up (up_of e5) _ _ h9
              replace h10 := dp_up (up_of e5) _ _ h10
              replace h11 := dp_up (up_of e5) _ _ h11
              replace hq := hq.up e5
              exact ds_ret de_bl hq (by first | rfl | exact congrArg PyData.bool (ff_a hb5) | exact congrArg PyData.bool (ff_b (not_t hb5)) | exact congrArg PyData.bool (ff_k HB2 (not_f hb3) hb5) | exact congrArg PyData.bool (ff_g HB2 (not_f hb3) hb5)))
         · try first | exact Bool.noConfusion (show true = false from hb5) | exact absurd hb5 (by decide)
           all_goals
             (replace h0 := dp_up (up_of e5) _ _ h0
              replace h1 := dp_up (up_of e5) _ _ h1
              replace h2 := dp_up (up_of e5) _ _ h2
              replace h3 := dp_up (up_of e5) _ _ h3
              replace h4 := dp_up (up_of e5) _ _ h4
              replace h5 := dp_up (up_of e5) _ _ h5
              replace h6 := dp_up (up_of e5) _ _ h6
              replace h7 := dp_up (up_of e5) _ _ h7
              replace h8 := dp_up (up_of e5) _ _ h8
              replace h9 := dp_up (up_of e5) _ _ h9
              replace h10 := dp_up (up_of e5) _ _ h10
              replace h11 := dp_up (up_of e5) _ _ h11
              replace hq := hq.up e5
              refine ds_if (dt_not (dt_e (de_f F (f_law_writes T) (xa_d (de_v 5 h5) (xa_d (de_v 7 h7) (xa_d (de_v 4 h4) xa_nil))) ⟨_, _, _, rfl, (by first | exact ⟨hc.at1.2, hsafe.cp⟩ | exact ⟨(hc.at2 _ _ _ rfl).1.2, hsafe.lc⟩), rfl⟩))) (fun hb8 H8 e8 => ?_) (fun hb8 H8 e8 => ?_)
              · try first | exact Bool.noConfusion (show false = true from hb8) | exact absurd hb8 (by decide)
                all_goals
                  (replace h0 := dp_up (up_of e8) _ _ h0
                   replace h1 := dp_up (up_of e8) _ _ h1
                   replace h2 := dp_up (up_of e8) _ _ h2
                   replace h3 := dp_up (up_of e8) _ _ h3
                   replace h4 := dp_up (up_of e8) _ _ h4
                   replace h5 := dp_up (up_of e8) _ _ h5
                   replace h6 := dp_up (up_of e8) _ _ h6
                   replace h7 := dp_up (up_of e8) _ _ h7
                   replace h8 := dp_up (up_of e8) _ _ h8
                   replace h9 := dp_up (up_of e8) _ _ h9
                   replace h10 := dp_up (up_of e8) _ _ h10
                   replace h11 := dp_up (up_of e8) _ _ h11
                   replace hq := hq.up e8
                   exact ds_ret de_bl hq (by first | rfl | exact congrArg PyData.bool (ff_a hb8) | exact congrArg PyData.bool (ff_b (not_t hb8)) | exact congrArg PyData.bool (ff_k hb3 (not_f hb5) hb8) | exact congrArg PyData.bool (ff_g hb3 (not_f hb5) hb8)))
              · try first | exact Bool.noConfusion (show true = false from hb8) | exact absurd hb8 (by decide)
                all_goals
                  (replace h0 := dp_up (up_of e8) _ _ h0
                   replace h1 := dp_up (up_of e8) _ _ h1
                   replace h2 := dp_up (up_of e8) _ _ h2
                   replace h3 := dp_up (up_of e8) _ _ h3
                   replace h4 := dp_up (up_of e8) _ _ h4
                   replace h5 := dp_up (up_of e8) _ _ h5
                   replace h6 := dp_up (up_of e8) _ _ h6
                   replace h7 := dp_up (up_of e8) _ _ h7
                   replace h8 := dp_up (up_of e8) _ _ h8
                   replace h9 := dp_up (up_of e8) _ _ h9
                   replace h10 := dp_up (up_of e8) _ _ h10
                   replace h11 := dp_up (up_of e8) _ _ h11
                   replace hq := hq.up e8
                   refine ds_if (dt_cmp (de_v 3 h3) de_str (by first | exact cm_eqs | exact cm_eqi | exact cm_eqb | exact cm_eqD F (by first | rfl | exact shaped_cp _ | exact shaped_lt _) (by first | rfl | exact shaped_cp _))) (fun hb9 H9 e9 => ?_) (fun hb9 H9 e9 => ?_)
                   · try first | exact Bool.noConfusion (show false = true from hb9) | exact absurd hb9 (by decide)
                     all_goals
                       (replace h0 := dp_up (up_of e9) _ _ h0
                        replace h1 := dp_up (up_of e9) _ _ h1
                        replace h2 := dp_up (up_of e9) _ _ h2
                        replace h3 := dp_up (up_of e9) _ _ h3
                        replace h4 := dp_up (up_of e9) _ _ h4
                        replace h5 := dp_up (up_of e9) _ _ h5
                        replace h6 := dp_up (up_of e9) _ _ h6
                        replace h7 := dp_up (up_of e9) _ _ h7
                        replace h8 := dp_up (up_of e9) _ _ h8
                        replace h9 := dp_up (up_of e9) _ _ h9
                        replace h10 := dp_up (up_of e9) _ _ h10
                        replace h11 := dp_up (up_of e9) _ _ h11
                        replace hq := hq.up e9
                        exact ds_ret (de_cmp (de_v 5 h5) (de_tup (xa_d de_str (xa_d de_str xa_nil))) (by first | exact cm_inS F | exact cm_inS F (by assumption) | exact cm_inD F (by first | rfl | exact shaped_cp _) (by first | rfl | assumption))) hq (by first | rfl | exact congrArg PyData.bool (ff_a hb9) | exact congrArg PyData.bool (ff_b (not_t hb9)) | exact congrArg PyData.bool (ff_k hb5 (not_f hb8) hb9) | exact congrArg PyData.bool (ff_g hb5 (not_f hb8) hb9)))
                   · try first | exact Bool.noConfusion (show true = false from hb9) | exact absurd hb9 (by decide)
                     all_goals
                       (replace h0 := dp_up (up_of e9) _ _ h0
                        replace h1 := dp_up (up_of e9) _ _ h1
                        replace h2 := dp_up (up_of e9) _ _ h2
                        replace h3 := dp_up (up_of e9) _ _ h3
                        replace h4 := dp_up (up_of e9) _ _ h4
                        replace h5 := dp_up (up_of e9) _ _ h5
                        replace h6 := dp_up (up_of e9) _ _ h6
                        replace h7 := dp_up (up_of e9) _ _ h7
                        replace h8 := dp_up (up_of e9) _ _ h8
                        replace h9 := dp_up (up_of e9) _ _ h9
                        replace h10 := dp_up (up_of e9) _ _ h10
                        replace h11 := dp_up (up_of e9) _ _ h11
                        replace hq := hq.up e9
                        exact ds_ret (de_and (de_cmp (de_v 5 h5) de_str (by first | exact cm_eqs | exact cm_eqi | exact cm_eqb | exact cm_eqD F (by first | rfl | exact shaped_cp _ | exact shaped_lt _) (by first | rfl | exact shaped_cp _))) fun hb10 => (de_and (de_cmp (de_ixT F (de_v 4 h4) de_int) de_str (by first | exact cm_eqs | exact cm_eqi | exact cm_eqb | exact cm_eqD F (by first | rfl | exact shaped_cp _ | exact shaped_lt _) (by first | rfl | exact shaped_cp _))) fun hb11 => (de_one (by first | exact (de_cmp (de_ixT F (de_v 4 h4) de_int) de_str (by first | exact cm_nes | exact cm_nei | exact cm_neD F (by first | rfl | exact shaped_cp _ | exact shaped_lt _) (by first | rfl | exact shaped_cp _))) | exact (show DE _ _ _ _ _ (.bool false) from (by first | exact Bool.noConfusion (show true = false from hb11) | exact Bool.noConfusion (show false = true from hb11) | exact Bool.noConfusion (show true = false from hb10) | exact Bool.noConfusion (show false = true from hb10))))))) hq (by first | rfl | exact congrArg PyData.bool (ff_a hb9) | exact congrArg PyData.bool (ff_b (not_t hb9)) | exact congrArg PyData.bool (ff_k hb5 (not_f hb8) hb9) | exact congrArg PyData.bool (ff_g hb5 (not_f hb8) hb9))))))
    · try first | exact Bool.noConfusion (show true = false from hb3) | exact absurd hb3 (by decide)
      all_goals
        (replace h0 := dp_up (up_of e3) _ _ h0
         replace h1 := dp_up (up_of e3) _ _ h1
         replace h2 := dp_up (up_of e3) _ _ h2
         replace h3 := dp_up (up_of e3) _ _ h3
         replace h4 := dp_up (up_of e3) _ _ h4
         replace h5 := dp_up (up_of e3) _ _ h5
         replace h6 := dp_up (up_of e3) _ _ h6
         replace h7 := dp_up (up_of e3) _ _ h7
         replace h8 := dp_up (up_of e3) _ _ h8
         replace h9 := dp_up (up_of e3) _ _ h9
         replace h10 := dp_up (up_of e3) _ _ h10
         replace h11 := dp_up (up_of e3) _ _ h11
         replace hq := hq.up e3
         refine ds_if (dt_w (dw_or (dt_cmp (de_v 2 h2) (de_tup (xa_d de_str (xa_d de_str (xa_d de_str xa_nil)))) (by first | exact cm_niS F | exact cm_niS F (by assumption))) fun hb14 => (dw_or (dt_cmp (de_v 8 h8) de_int (by first | exact cm_eqs | exact cm_eqi | exact cm_eqb | exact cm_eqD F (by first | rfl | exact shaped_cp _ | exact shaped_lt _) (by first | rfl | exact shaped_cp _))) fun hb13 => (dw_one_or (dt_cmp (de_v 9 h9) de_int (by first | exact cm_eqs | exact cm_eqi | exact cm_eqb | exact cm_eqD F (by first | rfl | exact shaped_cp _ | exact shaped_lt _) (by first | rfl | exact shaped_cp _))))))) (fun hb12 H12 e12 => ?_) (fun hb12 H12 e12 => ?_)
         · try first | exact Bool.noConfusion (show false = true from hb12) | exact absurd hb12 (by decide)
           all_goals
             (replace h0 := dp_up (up_of e12) _ _ h0
              replace h1 := dp_up (up_of e12) _ _ h1
              replace h2 := dp_up (up_of e12) _ _ h2
              replace h3 := dp_up (up_of e12) _ _ h3
              replace h4 := dp_up (up_of e12) _ _ h4
              replace h5 := dp_up (up_of e12) _ _ h5
              replace h6 := dp_up (up_of e12) _ _ h6
              replace h7 := dp_up (up_of e12) _ _ h7
              replace h8 := dp_up (up_of e12) _ _ h8
              replace h9 := dp_up (up_of e12) _ _ h9
              replace h10 := dp_up (up_of e12) _ _ h10
              replace h11 := dp_up (up_of e12) _ _ h11
              replace hq := hq.up e12
              exact ds_ret de_bl hq (by first | rfl | exact congrArg PyData.bool (ff_a hb12) | exact congrArg PyData.bool (ff_b (not_t hb12)) | exact congrArg PyData.bool (ff_k HB2 (not_f hb3) hb12) | exact congrArg PyData.bool (ff_g HB2 (not_f hb3) hb12)))
         · try first | exact Bool.noConfusion (show true = false from hb12) | exact absurd hb12 (by decide)
           all_goals
             (replace h0 := dp_up (up_of e12) _ _ h0
              replace h1 := dp_up (up_of e12) _ _ h1
              replace h2 := dp_up (up_of e12) _ _ h2
              replace h3 := dp_up (up_of e12) _ _ h3
              replace h4 := dp_up (up_of e12) _ _ h4
              replace h5 := dp_up (up_of e12) _ _ h5
              replace h6 := dp_up (up_of e12) _ _ h6
              replace h7 := dp_up (up_of e12) _ _ h7
              replace h8 := dp_up (up_of e12) _ _ h8
              replace h9 := dp_up (up_of e12) _ _ h9
              replace h10 := dp_up (up_of e12) _ _ h10
              replace h11 := dp_up (up_of e12) _ _ h11
              replace hq := hq.up e12
              refine ds_if (dt_not (dt_e (de_f F (f_law_writes T) (xa_d (de_v 5 h5) (xa_d (de_v 7 h7) (xa_d (de_v 4 h4) xa_nil))) ⟨_, _, _, rfl, (by first | exact ⟨hc.at1.2, hsafe.cp⟩ | exact ⟨(hc.at2 _ _ _ rfl).1.2, hsafe.lc⟩), rfl⟩))) (fun hb15 H15 e15 => ?_) (fun hb15 H15 e15 => ?_)
              · try first | exact Bool.noConfusion (show false = true from hb15) | exact absurd hb15 (by decide)
                all_goals
                  (replace h0 := dp_up (up_of e15) _ _ h0
                   replace h1 := dp_up (up_of e15) _ _ h1
                   replace h2 := dp_up (up_of e15) _ _ h2
                   replace h3 := dp_up (up_of e15) _ _ h3
                   replace h4 := dp_up (up_of e15) _ _ h4
                   replace h5 := dp_up (up_of e15) _ _ h5
                   replace h6 := dp_up (up_of e15) _ _ h6
                   replace h7 := dp_up (up_of e15) _ _ h7
                   replace h8 := dp_up (up_of e15) _ _ h8
                   replace h9 := dp_up (up_of e15) _ _ h9
                   replace h10 := dp_up (up_of e15) _ _ h10
                   replace h11 := dp_up (up_of e15) _ _ h11
                   replace hq := hq.up e15
                   exact ds_ret de_bl hq (by first | rfl | exact congrArg PyData.bool (ff_a hb15) | exact congrArg PyData.bool (ff_b (not_t hb15)) | exact congrArg PyData.bool (ff_k hb3 (not_f hb12) hb15) | exact congrArg PyData.bool (ff_g hb3 (not_f hb12) hb15)))
              · try first | exact Bool.noConfusion (show true = false from hb15) | exact absurd hb15 (by decide)
                all_goals
                  (replace h0 := dp_up (up_of e15) _ _ h0
                   replace h1 := dp_up (up_of e15) _ _ h1
                   replace h2 := dp_up (up_of e15) _ _ h2
                   replace h3 := dp_up (up_of e15) _ _ h3
                   replace h4 := dp_up (up_of e15) _ _ h4
                   replace h5 := dp_up (up_of e15) _ _ h5
                   replace h6 := dp_up (up_of e15) _ _ h6
                   replace h7 := dp_up (up_of e15) _ _ h7
                   replace h8 := dp_up (up_of e15) _ _ h8
                   replace h9 := dp_up (up_of e15) _ _ h9
                   replace h10 := dp_up (up_of e15) _ _ h10
                   replace h11 := dp_up (up_of e15) _ _ h11
                   replace hq := hq.up e15
                   refine ds_if (dt_cmp (de_v 3 h3) de_str (by first | exact cm_eqs | exact cm_eqi | exact cm_eqb | exact cm_eqD F (by first | rfl | exact shaped_cp _ | exact shaped_lt _) (by first | rfl | exact shaped_cp _))) (fun hb16 H16 e16 => ?_) (fun hb16 H16 e16 => ?_)
                   · try first | exact Bool.noConfusion (show false = true from hb16) | exact absurd hb16 (by decide)
                     all_goals
                       (replace h0 := dp_up (up_of e16) _ _ h0
                        replace h1 := dp_up (up_of e16) _ _ h1
                        replace h2 := dp_up (up_of e16) _ _ h2
                        replace h3 := dp_up (up_of e16) _ _ h3
                        replace h4 := dp_up (up_of e16) _ _ h4
                        replace h5 := dp_up (up_of e16) _ _ h5
                        replace h6 := dp_up (up_of e16) _ _ h6
                        replace h7 := dp_up (up_of e16) _ _ h7
                        replace h8 := dp_up (up_of e16) _ _ h8
                        replace h9 := dp_up (up_of e16) _ _ h9
                        replace h10 := dp_up (up_of e16) _ _ h10
                        replace h11 := dp_up (up_of e16) _ _ h11
                        replace hq := hq.up e16
                        exact ds_ret (de_cmp (de_v 5 h5) (de_tup (xa_d de_str (xa_d de_str xa_nil))) (by first | exact cm_inS F | exact cm_inS F (by assumption) | exact cm_inD F (by first | rfl | exact shaped_cp _) (by first | rfl | assumption))) hq (by first | rfl | exact congrArg PyData.bool (ff_a hb16) | exact congrArg PyData.bool (ff_b (not_t hb16)) | exact congrArg PyData.bool (ff_k hb12 (not_f hb15) hb16) | exact congrArg PyData.bool (ff_g hb12 (not_f hb15) hb16)))
                   · try first | exact Bool.noConfusion (show true = false from hb16) | exact absurd hb16 (by decide)
                     all_goals
                       (replace h0 := dp_up (up_of e16) _ _ h0
                        replace h1 := dp_up (up_of e16) _ _ h1
                        replace h2 := dp_up (up_of e16) _ _ h2
                        replace h3 := dp_up (up_of e16) _ _ h3
                        replace h4 := dp_up (up_of e16) _ _ h4
                        replace h5 := dp_up (up_of e16) _ _ h5
                        replace h6 := dp_up (up_of e16) _ _ h6
                        replace h7 := dp_up (up_of e16) _ _ h7
                        replace h8 := dp_up (up_of e16) _ _ h8
                        replace h9 := dp_up (up_of e16) _ _ h9
                        replace h10 := dp_up (up_of e16) _ _ h10
                        replace h11 := dp_up (up_of e16) _ _ h11
                        replace hq := hq.up e16
                        exact ds_ret (de_and (de_cmp (de_v 5 h5) de_str (by first | exact cm_eqs | exact cm_eqi | exact cm_eqb | exact cm_eqD F (by first | rfl | exact shaped_cp _ | exact shaped_lt _) (by first | rfl | exact shaped_cp _))) fun hb17 => (de_and (de_cmp (de_ixT F (de_v 4 h4) de_int) de_str (by first | exact cm_eqs | exact cm_eqi | exact cm_eqb | exact cm_eqD F (by first | rfl | exact shaped_cp _ | exact shaped_lt _) (by first | rfl | exact shaped_cp _))) fun hb18 => (de_one (by first | exact (de_cmp (de_ixT F (de_v 4 h4) de_int) de_str (by first | exact cm_nes | exact cm_nei | exact cm_neD F (by first | rfl | exact shaped_cp _ | exact shaped_lt _) (by first | rfl | exact shaped_cp _))) | exact (show DE _ _ _ _ _ (.bool false) from (by first | exact Bool.noConfusion (show true = false from hb18) | exact Bool.noConfusion (show false = true from hb18) | exact Bool.noConfusion (show true = false from hb17) | exact Bool.noConfusion (show false = true from hb17))))))) hq (by first | rfl | exact congrArg PyData.bool (ff_a hb16) | exact congrArg PyData.bool (ff_b (not_t hb16)) | exact congrArg PyData.bool (ff_k hb12 (not_f hb15) hb16) | exact congrArg PyData.bool (ff_g hb12 (not_f hb15) hb16)))))))
end
end PK
namespace PK
open L2 PySem PySem.Spec PyProof.Rows
theorem getD_ev {i : Nat} (hi : i < (evs.map PyData.str).length) : ∃ e, (evs.map PyData.str).getD i .none = .str e ∧ EvOk e := by
  have h : (evs.map PyData.str).getD i .none ∈ evs.map PyData.str := by
    rw [List.getD_eq_getElem?_getD, List.getElem?_eq_getElem hi]
    exact List.getElem_mem hi
  exact evs_ok h
section
variable {P : Program} {w : World} {K : PySem.W.Frag} {mg : Str → Option Value} {base : Heap} (T : Txt w K mg)
include T
def pre_law_faults_right (xs : List Dx) (r : PyData) : Prop := ∃ (ss : List PyData) (s : StD) (o : Stp) (o2 : Stp), xs = [.scr ss, .d (.tuple ss), .d (s.d), .d (.list (evs.map .str))] ∧ (StaOk ss s ∧ At ss s.num o ∧ LateAt ss s o2 ∧ SafeS s) ∧ r = .bool true
theorem f_law_faults_right : FnC P w K mg base 9 "_law_faults_right" (Spf K pre_law_faults_right) := by
  refine fnC_pure (N := ["_law_one", "_law_steps", "_law_state", "_law_events", "_law_event", "_law_promise", "_law_told_here"]) (ps := ["_law_one", "_law_steps", "_law_state", "_law_events"]) (h_law_faults_right T) (m_law_faults_right T) ⟨rfl, rfl, rfl, by decide +kernel, rfl, by decide +kernel, by decide +kernel⟩ (fun _ _ _ _ _ _ us hl => match us, hl with | [_, _, _, _], _ => rfl) (fun xs r h => by
    obtain ⟨_, _, _, _, rfl, _⟩ := h
    rfl) ?_
  intro Y cdv A outer s_ H vs xs r Q E hY F hv hp hq
  subst hY
  obtain ⟨ss, s, o, o2, rfl, hc, rfl⟩ := hp
  obtain ⟨v0_, v1_, v2_, v3_, rfl, h0, h1, h2, h3⟩ := vxs4 hv
  show DSs _ _ [some v0_, some v1_, some v2_, some v3_, _, _, _] _ _
  show DSs _ _ [some v0_, some v1_, some v2_, some v3_, _, _, _] _ _
  obtain ⟨hst, hat, hlt, hsafe⟩ := hc
  refine ds_for F (se_lst F (de_v 3 h3)) (tb_name 4 F) (fs := fun i => [(evs.map PyData.str).getD i .none]) (fun i hi => rfl) fun Hl el => ?_
  replace h0 := vx_up (up_of el) h0
  replace h1 := dp_up (up_of el) _ _ h1
  replace h2 := dp_up (up_of el) _ _ h2
  replace hq := hq.up el
  refine ⟨fun i σ' H' => ∃ a b c, Same Hl H' ∧ σ' = [some v0_, some v1_, some v2_, some v3_, a, b, c], ⟨none, none, none, Same.refl _, rfl⟩, fun i σ' H' h => by
    obtain ⟨_, _, _, h, _⟩ := h
    exact up_of h, fun i σ' H' H'' vs hi h e2 hl hd => ?_, fun σ' H' h => ?_⟩
  · obtain ⟨a, b, c, e1, rfl⟩ := h
    obtain ⟨v4_, rfl, h4⟩ := dpa1 hd
    obtain ⟨e, ee, hev⟩ := getD_ev hi
    rw [ee] at h4
    show DSs _ _ [some v0_, some v1_, some v2_, some v3_, some v4_, b, c] _ _
    replace h0 := vx_up (up_of (e1.trans e2)) h0
    replace h1 := dp_up (up_of (e1.trans e2)) _ _ h1
    replace h2 := dp_up (up_of (e1.trans e2)) _ _ h2
    replace hq := hq.up (e1.trans e2)
    have eA : Same Hl H'' := e1.trans e2
    refine ds_if (dt_e (de_f F (f_law_may T) (xa_d (de_v 1 h1) (xa_d (de_v 2 h2) (xa_d (de_v 4 h4) (xa_d (de_tup (xa_d de_str (xa_d de_str (xa_d de_str xa_nil)))) (xa_d de_str xa_nil))))) ⟨_, _, o, _, allW, _, rfl, ⟨hev, hat, hsafe.cp⟩, rfl⟩)) (fun hb H3 e3 => ?_) (fun hb H3 e3 => ds_nil ⟨_, _, _, eA.trans e3, rfl⟩)
    replace h0 := vx_up (up_of e3) h0
    replace h1 := dp_up (up_of e3) _ _ h1
    replace h2 := dp_up (up_of e3) _ _ h2
    replace h4 := dp_up (up_of e3) _ _ h4
    replace hq := hq.up e3
    refine ds_for F (se_tup F (de_tup (xa_d de_str (xa_d de_str xa_nil)))) (tb_name 5 F) (fs := fun i => [([PyData.str "kept", PyData.str "gone"] : List PyData).getD i .none]) (fun i hi => rfl) fun Hm em => ?_
    replace h0 := vx_up (up_of em) h0
    replace h1 := dp_up (up_of em) _ _ h1
    replace h2 := dp_up (up_of em) _ _ h2
    replace h4 := dp_up (up_of em) _ _ h4
    replace hq := hq.up em
    refine ⟨fun i σ' H' => ∃ b c, Same Hm H' ∧ σ' = [some v0_, some v1_, some v2_, some v3_, some v4_, b, c], ⟨b, c, Same.refl _, rfl⟩, fun i σ' H' h => by
      obtain ⟨_, _, h, _⟩ := h
      exact up_of h, fun i σ' H' H'' vs hi h e2 hl hd => ?_, fun σ' H' h => ?_⟩
    · obtain ⟨b, c, e5, rfl⟩ := h
      obtain ⟨v5_, rfl, h5⟩ := dpa1 hd
      have hp : ∃ p, ([PyData.str "kept", PyData.str "gone"] : List PyData).getD i .none = .str p ∧ (p = "kept" ∨ p = "gone") := by
        match i, hi with
        | 0, _ => exact ⟨_, rfl, .inl rfl⟩
        | 1, _ => exact ⟨_, rfl, .inr rfl⟩
        | n + 2, h => exact absurd h (by show ¬ n + 2 < 2; omega)
      obtain ⟨p, ep, hpp⟩ := hp
      rw [ep] at h5
      show DSs _ _ [some v0_, some v1_, some v2_, some v3_, some v4_, some v5_, c] _ _
      replace h0 := vx_up (up_of (e5.trans e2)) h0
      replace h1 := dp_up (up_of (e5.trans e2)) _ _ h1
      replace h2 := dp_up (up_of (e5.trans e2)) _ _ h2
      replace h4 := dp_up (up_of (e5.trans e2)) _ _ h4
      have eB : Same Hm H'' := e5.trans e2
      refine ds_set (F := F) 6 (de_f F (f_is_fault T) (xa_x (xe_v 0 h0) (xa_d (de_v 2 h2) (xa_d (de_v 4 h4) (xa_d (de_v 5 h5) xa_nil)))) ⟨_, _, o, o2, _, _, rfl, ⟨hst, hat, hlt, hev, hb, hpp⟩, rfl⟩) fun v6_ H6 e6 h6 => ?_
      show DSs _ _ [some v0_, some v1_, some v2_, some v3_, some v4_, some v5_, some v6_] _ _
      replace h1 := dp_up (up_of e6) _ _ h1
      replace h2 := dp_up (up_of e6) _ _ h2
      replace h4 := dp_up (up_of e6) _ _ h4
      replace h5 := dp_up (up_of e6) _ _ h5
      refine ds_guard (DT.is (dt_cmp (de_reprB F (n_repr T) (de_v 6 h6)) (de_reprB F (n_repr T) (de_f F (f_law_own_fault T) (xa_d (de_v 1 h1) (xa_d (de_v 2 h2) (xa_d (de_v 4 h4) (xa_d (de_v 5 h5) xa_nil)))) ⟨_, _, o, o2, _, _, rfl, ⟨can_of hev hat hlt hb, hsafe⟩, rfl⟩)) cm_nes) (by simp)) fun H7 e7 => ?_
      exact ds_nil ⟨_, _, (eB.trans e6).trans e7, rfl⟩
    · obtain ⟨b, c, e5, rfl⟩ := h
      refine ds_nil ?_
      exact ds_nil ⟨_, _, _, ((eA.trans e3).trans em).trans e5, rfl⟩
  · obtain ⟨a, b, c, e1, rfl⟩ := h
    exact ds_ret de_bl (hq.up e1) rfl
end
end PK
namespace PK
open L2 PySem PySem.Spec PyProof.Rows
/-! ## the drawing state: a dict of four entries -/
def mD (l sd : Int) (cv : V) (sp : Int) : List (Key × V) := [(.inr "left", .int l), (.inr "seed", .int sd), (.inr "cells", cv), (.inr "spot", .int sp)]
/-- a drawing state: where its dict is, the value of its cells, the cells -/
structure Md where
  p : Addr
  cv : V
  cs : List Int
/-- the dict of m, told exactly -/
def MAt (K : PySem.W.Frag) (m : Md) (l sd sp : Int) (H : Hp) : Prop := H m.p = some (.dK (mD l sd m.cv sp)) ∧ Dp K H m.cv (.list (m.cs.map .int))
/-- the dict of m, with b draws to come -/
def MOk (K : PySem.W.Frag) (m : Md) (b : Nat) (H : Hp) : Prop := ∃ l sd sp, MAt K m l sd sp H ∧ m.cs ≠ [] ∧ m.cs.length ≤ 1000 ∧ 0 ≤ sd ∧ sd < 2147483647 ∧ 0 ≤ sp ∧ sp + b ≤ 4294967296
def SI (I : Hp → Prop) : Prop := ∀ H H', Same H H' → I H → I H'
theorem si_at {K : PySem.W.Frag} {m : Md} {l sd sp : Int} : SI (MAt K m l sd sp) := fun H H' e h => ⟨e _ _ h.1, dp_up (up_of e) _ _ h.2⟩
theorem si_ok {K : PySem.W.Frag} {m : Md} {b : Nat} : SI (MOk K m b) := fun H H' e h => by
  obtain ⟨l, sd, sp, h, r⟩ := h
  exact ⟨l, sd, sp, si_at H H' e h, r⟩
theorem MOk.le {K : PySem.W.Frag} {m : Md} {b b' : Nat} {H : Hp} (h : MOk K m b H) (hb : b' ≤ b) : MOk K m b' H := by
  obtain ⟨l, sd, sp, h, h1, h2, h3, h4, h5, h6⟩ := h
  exact ⟨l, sd, sp, h, h1, h2, h3, h4, h5, by omega⟩
/-- a list made since: its growth leaves m as it is -/
theorem MOk.lst {K : PySem.W.Frag} {m : Md} {b b0 : Nat} {H1 H : Hp} {A : Addr} {xs ys : List V} (h0 : MOk K m b0 H1) (hA : H1 A = none) (u : Up H1 H) (h : MOk K m b H) (hx : H A = some (.lst xs)) : MOk K m b (upd H A (.lst ys)) := by
  obtain ⟨_, _, _, ⟨_, g0⟩, _⟩ := h0
  obtain ⟨l, sd, sp, ⟨g1, g2⟩, r⟩ := h
  have uA : Up H1 (upd H A (.lst ys)) := fun a o ho n => by
    rw [upd_ne (ne_of_none ho hA)]
    exact u a o ho n
  exact ⟨l, sd, sp, ⟨by rw [upd_ne (ne_of g1 hx (by intro z; cases z))]; exact g1, dp_up uA _ _ g0⟩, r⟩
/-- an int of which A holds -/
def isI (A : Int → Prop) : PyData → Prop := fun d => ∃ i, d = .int i ∧ A i
def inR (n : Int) : Int → Prop := fun i => 0 ≤ i ∧ i < n
section
variable {ι : Type} (Y : ι → Cx) (K : PySem.W.Frag)
/-- e comes to a datum of which P holds; I holds ahead, I' behind; all but dicts of four entries stays -/
def EI (σ : L2.St) (H : Hp) (I I' : Hp → Prop) (e : Expr) (P : PyData → Prop) : Prop :=
  ∃ t : TE, (∀ i, PE (Y i) e t) ∧ ∀ H1, Up H H1 → I H1 → ∀ Q : VK, (∀ v d H2, Up H1 H2 → I' H2 → Dp K H2 v d → P d → Q v H2) → t σ H1 Q
def EA (σ : L2.St) (H : Hp) (I I' : Hp → Prop) (es : List Expr) (P : List PyData → Prop) : Prop :=
  ∃ t : TA, (∀ i, PA (Y i) es t) ∧ ∀ H1, Up H H1 → I H1 → ∀ Q : List V → Hp → Prop, (∀ vs ds H2, Up H1 H2 → I' H2 → DpAll K H2 vs ds → P ds → Q vs H2) → t σ H1 Q
def TI' (σ : L2.St) (H : Hp) (I I' : Hp → Prop) (e : Expr) (P : Bool → Prop) : Prop :=
  ∃ t : TT, (∀ i, PT (Y i) e t) ∧ ∀ H1, Up H H1 → I H1 → ∀ Q : Bool → Hp → Prop, (∀ b H2, Up H1 H2 → I' H2 → P b → Q b H2) → t σ H1 Q
end
section
variable {ι : Type} {Y : ι → Cx} {P : Program} {w : World} {K : PySem.W.Frag} {mg : Str → Option Value} {base : Heap} {k k' : Nat} {σ : L2.St} {H H' : Hp} {a b c e elt src tg : Expr} {es : List Expr} {pos p0 p2 tp : Pos} {d d1 d2 : PyData} {ds ds1 ds2 rs : List PyData} {x : Str} {b1 b2 : Bool} {D : Ends} {scope : Scope} {rest body els : List Stmt} {js : List Nat} {j : Nat} {I I1 I2 I' : Hp → Prop} {A B C' : Int → Prop} {Pa Pb Pc : PyData → Prop} {Pl : List PyData → Prop} {m : Md} {y : Dx} {ys : List Dx}
theorem ei_de (hI : SI I) (h : DE Y K σ H e d) : EI Y K σ H I I e (· = d) := by
  obtain ⟨t, ht, h⟩ := h
  exact ⟨t, ht, fun H1 e1 i1 Q q => h H1 e1 Q fun v H2 e2 h2 => q v d H2 (up_of e2) (hI _ _ e2 i1) h2 rfl⟩
theorem EI.mono (h : EI Y K σ H I I' e Pa) (hp : ∀ d, Pa d → Pb d) : EI Y K σ H I I' e Pb := by
  obtain ⟨t, ht, h⟩ := h
  exact ⟨t, ht, fun H1 e1 i1 Q q => h H1 e1 i1 Q fun v d H2 e2 i2 h2 h3 => q v d H2 e2 i2 h2 (hp d h3)⟩
theorem EI.pre (h : EI Y K σ H I I' e Pa) (hp : ∀ H, I1 H → I H) : EI Y K σ H I1 I' e Pa := by
  obtain ⟨t, ht, h⟩ := h
  exact ⟨t, ht, fun H1 e1 i1 Q q => h H1 e1 (hp _ i1) Q q⟩
theorem EI.post (h : EI Y K σ H I I' e Pa) (hp : ∀ H, I' H → I1 H) : EI Y K σ H I I1 e Pa := by
  obtain ⟨t, ht, h⟩ := h
  exact ⟨t, ht, fun H1 e1 i1 Q q => h H1 e1 i1 Q fun v d H2 e2 i2 h2 h3 => q v d H2 e2 (hp _ i2) h2 h3⟩
theorem ei_int (hI : SI I) {i : Int} (h : DE Y K σ H e (.int i)) (hA : A i) : EI Y K σ H I I e (isI A) := (ei_de hI h).mono fun d q => ⟨i, q, hA⟩
/-- an operation upon ints by its rule -/
theorem ei_iop {op : Operator} {Cc : Int → Int → Prop} {g : Int → Int → Int} (ho : ∀ i, OpR (Y i) (binaryOp op) (rI Cc fun i j => .int (g i j))) (ha : EI Y K σ H I I1 a (isI A)) (hb : EI Y K σ H I1 I2 b (isI B)) (hc : ∀ i j, A i → B j → Cc i j ∧ C' (g i j)) : EI Y K σ H I I2 (.BinOp a op b pos) (isI C') := by
  obtain ⟨t1, h1, q1⟩ := ha
  obtain ⟨t2, h2, q2⟩ := hb
  refine ⟨_, fun i => pe_op (ho i) (h1 i) (h2 i), fun H1 e1 i1 Q q => q1 H1 e1 i1 _ fun v d H2 e2 i2 hv hd => q2 H2 (e1.trans e2) i2 _ fun u d' H3 e3 i3 hu hd' => ?_⟩
  obtain ⟨m, rfl, hA⟩ := hd
  obtain ⟨n, rfl, hB⟩ := hd'
  cases hv
  cases hu
  exact ⟨m, n, rfl, rfl, (hc m n hA hB).1, q _ _ H3 (e2.trans e3) i3 (.int _) ⟨_, rfl, (hc m n hA hB).2⟩⟩
theorem ei_add (ha : EI Y K σ H I I1 a (isI A)) (hb : EI Y K σ H I1 I2 b (isI B)) (hc : ∀ i j, A i → B j → C' (i + j)) : EI Y K σ H I I2 (.BinOp a .Add b pos) (isI C') := by
  obtain ⟨t1, h1, q1⟩ := ha
  obtain ⟨t2, h2, q2⟩ := hb
  refine ⟨_, fun i => pe_op op_add (h1 i) (h2 i), fun H1 e1 i1 Q q => q1 H1 e1 i1 _ fun v d H2 e2 i2 hv hd => q2 H2 (e1.trans e2) i2 _ fun u d' H3 e3 i3 hu hd' => ?_⟩
  obtain ⟨m, rfl, hA⟩ := hd
  obtain ⟨n, rfl, hB⟩ := hd'
  cases hv
  cases hu
  exact ⟨m, n, rfl, rfl, q _ _ H3 (e2.trans e3) i3 (.int _) ⟨_, rfl, hc m n hA hB⟩⟩
theorem ei_mul (ha : EI Y K σ H I I1 a (isI A)) (hb : EI Y K σ H I1 I2 b (isI B)) (hc : ∀ i j, A i → B j → CMul i j ∧ C' (i * j)) : EI Y K σ H I I2 (.BinOp a .Mult b pos) (isI C') := ei_iop (fun _ => op_mul) ha hb hc
theorem ei_mod (ha : EI Y K σ H I I1 a (isI A)) (hb : EI Y K σ H I1 I2 b (isI B)) (hc : ∀ i j, A i → B j → 0 < j ∧ C' (i % j)) : EI Y K σ H I I2 (.BinOp a .Mod b pos) (isI C') := ei_iop (fun _ => op_mod) ha hb hc
theorem ei_fdiv (ha : EI Y K σ H I I1 a (isI A)) (hb : EI Y K σ H I1 I2 b (isI B)) (hc : ∀ i j, A i → B j → CDiv i j ∧ C' (i / j)) : EI Y K σ H I I2 (.BinOp a .FloorDiv b pos) (isI C') := ei_iop (fun _ => op_fdiv) ha hb hc
/-- int(i) -/
theorem ei_inti (F : Fm P w K mg base k Y) (g : mg "int" = none) (ha : EI Y K σ H I I1 a (isI A)) (hg : ∀ i, Gl (Y i) "int" := by intro _; rfl)
    (he : ∀ i, starEach [a] (Y i).env = (false, eval a (Y i).env) :: starEach [] (Y i).env := by intro _; rfl) (hpl : ∀ i, (backTo pos (starEach [] (Y i).env)).any (·.1) = false := by intro _; rfl) : EI Y K σ H I I1 (.Call (.Name "int" p0) [a] [] pos) (isI A) := by
  obtain ⟨t1, h1, q1⟩ := ha
  refine ⟨_, fun i => pe_callTy (call_int1 (X := Y i)) (hg i) (by rw [F.hmg i]; exact g) PyProof.Rows.boot_int (pa_cons (h1 i) pa_nil (he i)) (by decide) (by decide) (he i) (hpl i), fun H1 e1 i1 Q q => q1 H1 e1 i1 _ fun v d H2 e2 i2 hv hd => ?_⟩
  obtain ⟨m, rfl, hA⟩ := hd
  cases hv
  exact .inl ⟨m, rfl, q _ _ H2 e2 i2 (.int m) ⟨m, rfl, hA⟩⟩
/-- a comparison of ints with > -/
theorem ti_gt (ha : EI Y K σ H I I1 a (isI A)) (hb : EI Y K σ H I1 I2 b (isI B)) (hm : ∀ _ : ι, behindInMarks .Gt b = false := by intro _; rfl) : TI' Y σ H I I2 (.Compare a [.Gt] [b] pos) (fun z => ∃ i j, A i ∧ B j ∧ z = decide (j < i)) := by
  obtain ⟨t1, h1, q1⟩ := ha
  obtain ⟨t2, h2, q2⟩ := hb
  refine ⟨_, fun i => pt_cmpR op_gt (h1 i) (h2 i) (hm i), fun H1 e1 i1 Q q => q1 H1 e1 i1 _ fun v d H2 e2 i2 hv hd => q2 H2 (e1.trans e2) i2 _ fun u d' H3 e3 i3 hu hd' => ?_⟩
  obtain ⟨m, rfl, hA⟩ := hd
  obtain ⟨n, rfl, hB⟩ := hd'
  cases hv
  cases hu
  exact ⟨m, n, rfl, rfl, _, rfl, q _ H3 (e2.trans e3) i3 ⟨m, n, hA, hB, rfl⟩⟩
end
end PK
namespace PK
open L2 PySem PySem.Spec PyProof.Rows
theorem up_dk4 {H : Hp} {p : Addr} {kvs kvs' : List (Key × V)} (h : H p = some (.dK kvs)) (hl : kvs.length = 4) : Up H (upd H p (.dK kvs')) := fun a o ho n => by
  by_cases e : a = p
  · subst e
    rw [h] at ho
    cases ho
    exact absurd hl (n _ rfl)
  · rw [upd_ne e]
    exact ho
section
variable {ι : Type} {Y : ι → Cx} {P : Program} {w : World} {K : PySem.W.Frag} {mg : Str → Option Value} {base : Heap} {k k' : Nat} {σ : L2.St} {H H' : Hp} {a b c e elt src tg : Expr} {es : List Expr} {pos p0 p2 tp : Pos} {d d1 d2 : PyData} {ds ds1 ds2 rs : List PyData} {x : Str} {b1 b2 : Bool} {D : Ends} {scope : Scope} {rest body els : List Stmt} {js : List Nat} {j : Nat} {I I1 I2 I' : Hp → Prop} {A B C' : Int → Prop} {Pa Pb Pc : PyData → Prop} {Pl : List PyData → Prop} {m : Md} {y : Dx} {ys : List Dx} {l sd sp : Int}
/-! ### m["..."] -/
/-- the value at a key -/
def mVal (l sd : Int) (cs : List Int) (sp : Int) (s : Str) : Option PyData := if s = "left" then some (.int l) else if s = "seed" then some (.int sd) else if s = "cells" then some (.list (cs.map .int)) else if s = "spot" then some (.int sp) else none
theorem ei_mget (j : Nat) {xm s : Str} {kj : Nat} {kp mp : Pos} (F : Fm P w K mg base k Y) (hj : σ[j]? = some (some (.ref m.p))) (hs : mVal l sd m.cs sp s = some d) (hN : ∀ i, (Y i).N[j]? = some xm := by intro _; rfl)
    (hv : ∀ i, Vis (Y i).env.scope xm := by intro _; first | exact Or.inl rfl | exact Or.inr (Or.inl rfl) | exact Or.inr (Or.inr rfl)) (hd : (xm == ("__debug__" : Str)) = false := by decide) (hcd : (xm == ("__classdict__" : Str)) = false := by decide) (hns : NoSl (.Constant (.str s) kj kp) := by exact fun _ _ => rfl) :
    EI Y K σ H (MAt K m l sd sp) (MAt K m l sd sp) (.Subscript (.Name xm mp) (.Constant (.str s) kj kp) pos) (· = d) := by
  refine ⟨tDGet (tVar j) _, fun i => pe_dget (by have := rm64 (F.rm i); omega) (pe_var (hN i) (hv i) hd hcd) pe_str hns, fun H1 e1 i1 Q q => ⟨.ref m.p, hj, ?_⟩⟩
  obtain ⟨h1, h2⟩ := id i1
  have key : ∃ v, valV (mD l sd m.cv sp) (.inr s) = some v ∧ Dp K H1 v d := by
    unfold mVal at hs
    split at hs
    · rename_i z
      subst z
      cases hs
      exact ⟨_, rfl, .int _⟩
    split at hs
    · rename_i z
      subst z
      cases hs
      exact ⟨_, rfl, .int _⟩
    split at hs
    · rename_i z
      subst z
      cases hs
      exact ⟨_, rfl, h2⟩
    split at hs
    · rename_i z
      subst z
      cases hs
      exact ⟨_, rfl, .int _⟩
    · cases hs
  obtain ⟨v, hv1, hv2⟩ := key
  refine ⟨m.p, v, rfl, ?_, q v d H1 (Up.refl _) i1 hv2 rfl⟩
  rw [← hv1]
  exact DGet.k (k := .inr s) h1
/-! ### subscripts, calls, displays -/
/-- a list at an index that is reckoned -/
theorem ei_ixL (F : Fm P w K mg base k Y) (ha : EI Y K σ H I I1 a (· = .list ds)) (hb : EI Y K σ H I1 I2 b (isI (inR ds.length))) (hs : PlainIx b := by exact fun _ _ => rfl) : EI Y K σ H I I2 (.Subscript a b pos) (· ∈ ds) := by
  obtain ⟨t1, h1, q1⟩ := ha
  obtain ⟨t2, h2, q2⟩ := hb
  refine ⟨tOp (rIxL K) t1 t2, fun i => pe_ix (by
    have q := ix_list (X := Y i)
    rw [F.hK i] at q
    exact q) (h1 i) (h2 i) hs, fun H1 e1 i1 Q q => q1 H1 e1 i1 _ fun v d H2 e2 i2 hv hd => q2 H2 (e1.trans e2) i2 _ fun u d' H3 e3 i3 hu hd' => ?_⟩
  subst hd
  obtain ⟨n, rfl, hn0, hn1⟩ := hd'
  cases hu
  cases dp_up e3 _ _ hv with
  | lst ht hx =>
    have hi : n.toNat < ds.length := by omega
    have ed : ds[n.toNat]? = some ds[n.toNat] := List.getElem?_eq_getElem hi
    have ea : atI ds n = some ds[n.toNat] := by
      unfold atI ixN
      rw [if_pos hn0, if_pos (by omega)]
      exact ed
    obtain ⟨v, hv1, hv2⟩ := atD hx ea
    exact ⟨_, _, n, v, rfl, rfl, ht, hv1, q v _ H3 (e2.trans e3) i3 hv2 (List.getElem_mem hi)⟩
theorem ea_nil : EA Y K σ H I I [] (· = []) := ⟨_, fun _ => pa_nil, fun H1 _ i1 Q q => q [] [] H1 (Up.refl _) i1 .nil rfl⟩
theorem ea_cons (h : EI Y K σ H I I1 e Pa) (r : EA Y K σ H I1 I2 es Pl) (hs : ∀ i, starEach (e :: es) (Y i).env = (false, eval e (Y i).env) :: starEach es (Y i).env := by intro _; rfl) : EA Y K σ H I I2 (e :: es) (fun ds => ∃ d r, ds = d :: r ∧ Pa d ∧ Pl r) := by
  obtain ⟨t, ht, h⟩ := h
  obtain ⟨u, hu, r⟩ := r
  refine ⟨tCons t u, fun i => pa_cons (ht i) (hu i) (hs i), fun H1 e1 i1 Q q => h H1 e1 i1 _ fun v d H2 e2 i2 h2 hd => r H2 (e1.trans e2) i2 _ fun vs ds H3 e3 i3 h3 hds => ?_⟩
  exact q (v :: vs) (d :: ds) H3 (e2.trans e3) i3 (.cons (dp_up e3 _ _ h2) h3) ⟨d, ds, rfl, hd, hds⟩
theorem ei_tup {n : Nat} (hI : SI I1) (h : EA Y K σ H I I1 es Pl) (hl : ∀ ds, Pl ds → ds.length ≤ 16777216) : EI Y K σ H I I1 (.Tuple es n pos) (fun d => ∃ ds, d = .tuple ds ∧ Pl ds) := by
  obtain ⟨t, ht, h⟩ := h
  refine ⟨tTup t, fun i => pe_tup (ht i), fun H1 e1 i1 Q q => h H1 e1 i1 _ fun vs ds H2 e2 i2 h2 hds => ?_⟩
  exact ⟨by rw [dpa_snd h2, sizeLine_eq]; exact hl ds hds, fun p hp => q _ _ _ (e2.trans (up_of (same_new hp))) (hI _ _ (same_new hp) i2) (.tup (SqT.of upd_same) (dpa_up (up_of (same_new hp)) _ _ h2)) ⟨ds, rfl, hds⟩⟩
/-- f(m, e, ..), m the drawing state -/
theorem ei_call (j : Nat) {spp : Sp} {xm : Str} {mp : Pos} (F : Fm P w K mg base k Y) (G : FnC P w K mg base k' x spp) (hj : σ[j]? = some (some (.ref m.p))) (ha : XA Y K σ H es ys) (hI : SI I)
    (hsp : ∀ vs H1, Up H H1 → I H1 → Vxs K H1 vs ys → ∀ Q : VK, (∀ v d H2, Up H1 H2 → I' H2 → Dp K H2 v d → Pa d → Q v H2) → spp (.ref m.p :: vs) H1 Q E0) (hk : k' ≤ k := by decide) (hg : ∀ i, Gl (Y i) x := by intro _; rfl)
    (hN : ∀ i, (Y i).N[j]? = some xm := by intro _; rfl) (hv : ∀ i, Vis (Y i).env.scope xm := by intro _; first | exact Or.inl rfl | exact Or.inr (Or.inl rfl) | exact Or.inr (Or.inr rfl)) (hd : (xm == ("__debug__" : Str)) = false := by decide) (hcd : (xm == ("__classdict__" : Str)) = false := by decide)
    (hdb : (x == ("__debug__" : Str)) = false := by decide) (he : ∀ i, starEach (.Name xm mp :: es) (Y i).env = (false, eval (.Name xm mp) (Y i).env) :: starEach es (Y i).env := by intro _; rfl) (hpl : ∀ i, (backTo pos (starEach es (Y i).env)).any (·.1) = false := by intro _; rfl) :
    EI Y K σ H I I' (.Call (.Name x p0) (.Name xm mp :: es) [] pos) Pa := by
  obtain ⟨f, fd, ps, G, kp, gm, bd⟩ := G
  obtain ⟨t1, h1, q1⟩ := ha
  refine ⟨tCall spp [] E0 (tCons (tVar j) t1), fun i => ?_, fun H1 e1 i1 Q q => ⟨.ref m.p, hj, q1 H1 e1 _ fun vs H2 e2 hv => ?_⟩⟩
  · have G' : FnOk (Y i).prog (Y i).w (Y i).K (Y i).mg (Y i).base CX0 k' f fd ps spp := by
      rw [F.hP i, F.hw i, F.hK i, F.hmg i, F.hb i]
      exact G
    exact pe_call G' ((F.rm i).mono hk) (hg i) (by rw [F.hmg i]; exact gm) (by rw [F.hK i]; exact kp) (by rw [F.hK i]; exact bd) .nil pass0 (pa_cons (pe_var (hN i) (hv i) hd hcd) (h1 i) (he i)) hdb (he i) (hpl i)
  · show spp (V.ref m.p :: vs ++ []) H2 Q E0
    rw [List.append_nil]
    exact hsp vs H2 (e1.trans (up_of e2)) (hI _ _ e2 i1) hv Q fun v d H3 e3 i3 h3 h4 => q v d H3 ((up_of e2).trans e3) i3 h3 h4
/-! ### statements -/
theorem dsi_set (j : Nat) {pos' : Pos} (h : EI Y K σ H I I' e Pa) (hi0 : I H) (hk : ∀ v d H1, Up H H1 → I' H1 → Dp K H1 v d → Pa d → DSs Y D (σ.set j (some v)) H1 rest) (F : Fm P w K mg base k Y) (hi : ∀ l, (Y l).N[j]? = some x := by intro _; rfl) (hx : ∀ l, Loc (Y l).env.scope x := by intro _; first | exact Or.inl rfl | exact Or.inr rfl)
    (hs : ∀ l, swapsWith e (some (.Name x pos')) pos.line (Y l).env = pure false := by intro _; rfl) (hf : ∀ l, (Y l).fn x = true ∨ (Y l).env.scope.names.lookup x = some .local := by intro _; first | exact .inl rfl | exact .inr rfl) : DSs Y D σ H (.Assign [.Name x pos'] e pos :: rest) := by
  obtain ⟨t, ht, h⟩ := h
  exact ds_cons ⟨tAsg t (gName j), fun l => ps_set (F.nd l) (hi l) (hx l) (ht l) (hs l) (hf l), h H (Up.refl H) hi0 _ fun v d H1 e1 i1 h1 h2 => hk v d H1 e1 i1 h1 h2⟩
theorem dsi_ret (h : EI Y K σ H I I' e Pa) (hi0 : I H) (hq : ∀ v d H', Up H H' → I' H' → Dp K H' v d → Pa d → D.rt v H') : DSs Y D σ H (.Return (some e) pos :: rest) := by
  obtain ⟨t, ht, h⟩ := h
  exact ds_cons ⟨tRet t, fun l => ps_ret (ht l), h H (Up.refl H) hi0 _ hq⟩
theorem dsi_if {Pz : Bool → Prop} (hc : TI' Y σ H I I' c Pz) (hi0 : I H) (h1 : Pz true → ∀ H1, Up H H1 → I' H1 → DSs Y (cont Y D rest) σ H1 body) (h2 : Pz false → ∀ H1, Up H H1 → I' H1 → DSs Y D σ H1 rest) : DSs Y D σ H (.If c body [] pos :: rest) := by
  obtain ⟨t, ht, h⟩ := hc
  refine ds_cons ⟨tIfS t (fun D σ H => DSs Y D σ H body) fun D σ H => DSs Y D σ H [], fun l => ps_if (ht l) (pss_rest l) (pss_rest l), h H (Up.refl H) hi0 _ fun b H1 e1 i1 hb => ?_⟩
  cases b with
  | true => exact iteT (h1 hb H1 e1 i1)
  | false => exact iteF (ds_nil (h2 hb H1 e1 i1))
/-- m["left"] = e, m["spot"] = e -/
theorem dsi_put (j : Nat) {xm s : Str} {kj : Nat} {kp mp pos' : Pos} {l' sp' : Int} (F : Fm P w K mg base k Y) (hj : σ[j]? = some (some (.ref m.p))) (h : EI Y K σ H (MAt K m l sd sp) (MAt K m l sd sp) e (· = d)) (hi0 : MAt K m l sd sp H) (hs : (s = "left" ∧ d = .int l' ∧ sp' = sp) ∨ (s = "spot" ∧ d = .int sp' ∧ l' = l))
    (hk : ∀ H1, Up H H1 → MAt K m l' sd sp' H1 → DSs Y D σ H1 rest) (hN : ∀ i, (Y i).N[j]? = some xm := by intro _; rfl)
    (hv : ∀ i, Vis (Y i).env.scope xm := by intro _; first | exact Or.inl rfl | exact Or.inr (Or.inl rfl) | exact Or.inr (Or.inr rfl)) (hd : (xm == ("__debug__" : Str)) = false := by decide) (hcd : (xm == ("__classdict__" : Str)) = false := by decide)
    (hsw : ∀ i, swapsWith e (some (.Subscript (.Name xm mp) (.Constant (.str s) kj kp) pos')) pos.line (Y i).env = pure false := by intro _; rfl) : DSs Y D σ H (.Assign [.Subscript (.Name xm mp) (.Constant (.str s) kj kp) pos'] e pos :: rest) := by
  obtain ⟨t, ht, h⟩ := h
  refine ds_cons ⟨sDPut (tVar j) _ t, fun i => ps_dput (by have := rm64 (F.rm i); omega) (pe_var (hN i) (hv i) hd hcd) pe_str (ht i) (hsw i), h H (Up.refl H) hi0 _ fun v d' H1 e1 i1 hv hd' => ⟨.ref m.p, hj, ?_⟩⟩
  subst hd'
  obtain ⟨g1, g2⟩ := i1
  rcases hs with ⟨rfl, rfl, rfl⟩ | ⟨rfl, rfl, rfl⟩
  · cases hv
    exact ⟨m.p, _, rfl, DPut.k (k := .inr "left") g1 (show 4 < sizeLine by decide), hk _ (e1.trans (up_dk4 g1 rfl)) ⟨upd_same, dp_up (up_dk4 g1 rfl) _ _ g2⟩⟩
  · cases hv
    exact ⟨m.p, _, rfl, DPut.k (k := .inr "spot") g1 (show 4 < sizeLine by decide), hk _ (e1.trans (up_dk4 g1 rfl)) ⟨upd_same, dp_up (up_dk4 g1 rfl) _ _ g2⟩⟩
/-- a, b = e, f -/
theorem dsi_par {jx jy : Nat} {xn yn : Str} {px py pt pt2 : Pos} {kt k2 : Nat} (F : Fm P w K mg base k Y) (h1 : EI Y K σ H I I1 a Pa) (h2 : EI Y K σ H I1 I2 b Pb) (hi0 : I H) (hk : ∀ v u d d' H1, Up H H1 → I2 H1 → Dp K H1 v d → Pa d → Dp K H1 u d' → Pb d' → DSs Y D ((σ.set jx (some v)).set jy (some u)) H1 rest)
    (hi : ∀ l, (Y l).N[jx]? = some xn := by intro _; rfl) (hj : ∀ l, (Y l).N[jy]? = some yn := by intro _; rfl) (hij : jx ≠ jy := by decide) (hx : ∀ l, (Y l).env.scope.names.lookup xn = some .local := by intro _; rfl) (hy : ∀ l, (Y l).env.scope.names.lookup yn = some .local := by intro _; rfl)
    (hw : ∀ l, swappedStores [.Tuple [.Name xn px, .Name yn py] kt pt] (.Tuple [a, b] k2 pt2) (Y l).env = pure (some [xn, yn]) := by intro _; rfl) (hs : ∀ l, swapsWithSole [.Tuple [.Name xn px, .Name yn py] kt pt] (.Tuple [a, b] k2 pt2) pos.line (Y l).env = pure false := by intro _; rfl)
    (he : ∀ l, starEach [a, b] (Y l).env = (false, eval a (Y l).env) :: starEach [b] (Y l).env := by intro _; rfl) (he2 : ∀ l, starEach [b] (Y l).env = (false, eval b (Y l).env) :: starEach [] (Y l).env := by intro _; rfl) :
    DSs Y D σ H (.Assign [.Tuple [.Name xn px, .Name yn py] kt pt] (.Tuple [a, b] k2 pt2) pos :: rest) := by
  obtain ⟨t, ht, h⟩ := ea_cons h1 (ea_cons h2 ea_nil he2) he
  refine ds_cons ⟨tPar jx jy t, fun l => ps_par (F.calm l) (F.nd l) (hi l) (hj l) hij (hx l) (hy l) (ht l) (hw l) (hs l), h H (Up.refl H) hi0 _ fun vs ds H1 e1 i1 hv hd => ?_⟩
  obtain ⟨d, r, rfl, hd1, d', r', rfl, hd2, rfl⟩ := hd
  cases hv with
  | cons g1 hv =>
    cases hv with
    | cons g2 hv =>
      cases hv
      exact ⟨_, _, rfl, hk _ _ d d' H1 e1 i1 g1 hd1 g2 hd2⟩
end
end PK
namespace PK
open L2 PySem PySem.Spec PyProof.Rows
/-- a draw: an int from 0 to below n -/
def spDraw (K : PySem.W.Frag) : Sp := fun vs H Q _ => ∃ (m : Md) (v : V) (n : Int) (b : Nat), vs = [.ref m.p, v] ∧ Dp K H v (.int n) ∧ 1 ≤ n ∧ n < 1073741824 ∧ MOk K m (b + 1) H ∧ ∀ v' d H', Up H H' → MOk K m b H' → Dp K H' v' d → isI (inR n) d → Q v' H'
theorem inR_mod {i n : Int} (h : 0 < n) : inR n (i % n) := ⟨Int.emod_nonneg i (by omega), Int.emod_lt_of_pos i h⟩
section
variable {P : Program} {w : World} {K : PySem.W.Frag} {mg : Str → Option Value} {base : Heap} (T : Txt w K mg)
include T
theorem f_law_draw : FnC P w K mg base 1 "_law_draw" (spDraw K) := by
  refine fnC_of (N := ["_law_m", "_law_many", "_law_found", "_law_spot", "_law_cells", "_law_added", "_law_cell", "_law_blend"]) (ps := ["_law_m", "_law_many"]) (h_law_draw T) (m_law_draw T) ⟨rfl, rfl, rfl, by decide +kernel, rfl, by decide +kernel, by decide +kernel⟩ (fun _ _ _ _ _ _ us hl => match us, hl with | [_, _], _ => rfl) (fun vs H Q E h => by
    obtain ⟨_, _, _, _, rfl, _⟩ := h
    rfl) fun cdv A outer s_ H vs Q E F h => ?_
  obtain ⟨m, v1_, n, b, rfl, h1, hn1, hn2, hm, hq⟩ := h
  obtain ⟨l, sd, sp, hm, hc0, hcl, hsd0, hsd1, hsp0, hspb⟩ := hm
  show DSs _ _ [some (.ref m.p), some v1_, _, _, _, _, _, _] _ _
  have hi := si_at (K := K) (m := m) (l := l) (sd := sd) (sp := sp)
  refine dsi_if (ti_gt ((ei_mget 0 F rfl rfl).mono fun d q => ⟨l, q, (rfl : l = l)⟩) (ei_int hi de_int (A := (· = 0)) rfl)) hm (fun hz H1 e1 i1 => ?_) (fun hz H1 e1 i1 => ?_)
  · obtain ⟨_, _, rfl, rfl, hz⟩ := hz
    have hl : 0 < l := of_decide_eq_true hz.symm
    replace h1 := dp_up e1 _ _ h1
    refine dsi_set 2 (ei_mod (C' := inR n) (ei_inti (A := fun _ => True) F (n_int T) ((ei_mget 0 F rfl rfl).mono fun d q => ⟨l, q, trivial⟩)) (ei_int hi (de_v 1 h1) (A := (· = n)) rfl) fun i j _ hj => by subst hj; exact ⟨by omega, inR_mod (by omega)⟩) i1 (fun v2_ d2 H2 e2 i2 h2 hd2 => ?_) F
    replace h1 := dp_up e2 _ _ h1
    show DSs _ _ [some (.ref m.p), some v1_, some v2_, _, _, _, _, _] _ _
    refine dsi_put (l' := l / n) (sp' := sp) 0 F rfl ((ei_fdiv (C' := (· = l / n)) ((ei_mget 0 F rfl rfl).mono fun d q => ⟨l, q, (rfl : l = l)⟩) (ei_int hi (de_v 1 h1) (A := (· = n)) rfl) fun i j hi' hj => by subst hi' hj; exact ⟨⟨by omega, hn2⟩, rfl⟩).mono fun d q => by obtain ⟨i, rfl, rfl⟩ := q; rfl) i2 (.inl ⟨rfl, rfl, rfl⟩) fun H3 e3 i3 => ?_
    refine dsi_ret (ei_de si_at (de_v 2 (dp_up e3 _ _ h2))) i3 fun v d H' e4 i4 h4 hd4 => ?_
    refine hq v d H' (((e1.trans e2).trans e3).trans e4) ⟨_, _, _, i4, hc0, hcl, hsd0, hsd1, hsp0, by omega⟩ h4 (hd4 ▸ hd2)
  · replace h1 := dp_up e1 _ _ h1
    refine dsi_set 3 (ei_mget 0 F rfl rfl) i1 (fun v3_ d3 H2 e2 i2 h3 hd3 => ?_) F
    subst hd3
    replace h1 := dp_up e2 _ _ h1
    show DSs _ _ [some (.ref m.p), some v1_, _, some v3_, _, _, _, _] _ _
    refine dsi_put (l' := l) (sp' := sp + 1) 0 F rfl (ei_de si_at (de_add (de_v 3 h3) de_int)) i2 (.inr ⟨rfl, rfl, rfl⟩) fun H3 e3 i3 => ?_
    replace h1 := dp_up e3 _ _ h1
    replace h3 := dp_up e3 _ _ h3
    have hi3 := si_at (K := K) (m := m) (l := l) (sd := sd) (sp := sp + 1)
    refine dsi_par (jx := 4) (jy := 5) F (ei_mget 0 F rfl rfl) (ei_add (A := fun _ => True) (C' := fun _ => True) ((ei_mget 0 F rfl rfl).mono fun d q => ⟨sd, q, trivial⟩) (ei_mul (C' := fun _ => True) (ei_mul (C' := fun i => -(2 ^ 64) < i ∧ i < 2 ^ 64) (ei_int hi3 de_int (A := (· = 40503)) rfl) (ei_int hi3 (de_v 3 h3) (A := (· = sp)) rfl) fun i j a b => by subst a b; exact ⟨.inl ⟨by omega, by omega⟩, by omega, by omega⟩) (ei_int hi3 (de_v 3 h3) (A := (· = sp)) rfl) fun i j a b => ⟨.inl a, trivial⟩) fun _ _ _ _ => trivial) i3 fun v4_ v5_ d4 d5 H4 e4 i4 h4 hd4 h5 hd5 => ?_
    subst hd4
    obtain ⟨ad, rfl, _⟩ := hd5
    replace h1 := dp_up e4 _ _ h1
    replace h3 := dp_up e4 _ _ h3
    show DSs _ _ [some (.ref m.p), some v1_, _, some v3_, some v4_, some v5_, _, _] _ _
    have hcs : 0 < m.cs.length := List.length_pos_iff.mpr hc0
    have hln : ((m.cs.map PyData.int).length : Int) = m.cs.length := by simp
    refine dsi_set 6 (ei_ixL F (ei_de hi3 (de_v 4 h4)) (ei_mod (C' := inR (m.cs.map PyData.int).length) (ei_inti (A := fun _ => True) F (n_int T) (ei_int hi3 (de_v 3 h3) trivial)) (ei_int hi3 (de_len F (n_len T) (de_v 4 h4) (.inr rfl)) (A := (· = ((m.cs.map PyData.int).length : Int))) rfl) fun i j _ hj => by subst hj; exact ⟨by rw [hln]; omega, inR_mod (by rw [hln]; omega)⟩)) i4 (fun v6_ d6 H5 e5 i5 h6 hd6 => ?_) F
    obtain ⟨ce, _, rfl⟩ := List.mem_map.mp hd6
    replace h1 := dp_up e5 _ _ h1
    replace h3 := dp_up e5 _ _ h3
    replace h5 := dp_up e5 _ _ h5
    show DSs _ _ [some (.ref m.p), some v1_, _, some v3_, some v4_, some v5_, some v6_, _] _ _
    refine dsi_set 7 (ei_mod (C' := inR 2147483647) (ei_inti (A := fun _ => True) F (n_int T) (ei_add (ei_mul (C' := fun _ => True) (ei_int hi3 (de_v 6 h6) (A := fun _ => True) trivial) (ei_add (C' := fun i => -(2 ^ 64) < i ∧ i < 2 ^ 64) (ei_mul (C' := fun i => 0 ≤ i ∧ i < 2 ^ 63) (ei_int hi3 de_int (A := (· = 2)) rfl) (ei_int hi3 (de_v 3 h3) (A := (· = sp)) rfl) fun i j a b => by subst a b; exact ⟨.inl ⟨by omega, by omega⟩, by omega, by omega⟩) (ei_int hi3 de_int (A := (· = 3)) rfl) fun i j a b => by subst b; exact ⟨by omega, by omega⟩) fun i j a b => ⟨.inr b, trivial⟩) (ei_int hi3 (de_v 5 h5) (A := fun _ => True) trivial) fun _ _ _ _ => trivial)) (ei_int hi3 de_int (A := (· = 2147483647)) rfl) fun i j _ b => by subst b; exact ⟨by omega, inR_mod (by omega)⟩) i5 (fun v7_ d7 H6 e6 i6 h7 hd7 => ?_) F
    obtain ⟨bl, rfl, hb0, hb1⟩ := hd7
    replace h1 := dp_up e6 _ _ h1
    replace h3 := dp_up e6 _ _ h3
    show DSs _ _ [some (.ref m.p), some v1_, _, some v3_, some v4_, some v5_, some v6_, some v7_] _ _
    refine dsi_set 7 (ei_mod (C' := inR 2147483629) (ei_inti (A := fun _ => True) F (n_int T) (ei_add (ei_add (C' := fun _ => True) (ei_mul (C' := fun _ => True) (ei_int hi3 (de_v 7 h7) (A := (· = bl)) rfl) (ei_int hi3 (de_v 7 h7) (A := (· = bl)) rfl) fun i j a b => by subst a b; exact ⟨.inl ⟨by omega, by omega⟩, trivial⟩) (ei_mul (C' := fun _ => True) (ei_int hi3 de_int (A := (· = 69621)) rfl) (ei_int hi3 (de_v 3 h3) (A := fun _ => True) trivial) fun i j a b => by subst a; exact ⟨.inl ⟨by omega, by omega⟩, trivial⟩) fun _ _ _ _ => trivial) (B := fun _ => True) ((ei_mget 0 F rfl rfl).mono fun d q => ⟨sd, q, trivial⟩) fun _ _ _ _ => trivial)) (ei_int hi3 de_int (A := (· = 2147483629)) rfl) fun i j _ b => by subst b; exact ⟨by omega, inR_mod (by omega)⟩) i6 (fun v7_ d7 H7 e7 i7 h7 hd7 => ?_) F
    obtain ⟨bl2, rfl, hb0, hb1⟩ := hd7
    replace h1 := dp_up e7 _ _ h1
    replace h3 := dp_up e7 _ _ h3
    show DSs _ _ [some (.ref m.p), some v1_, _, some v3_, some v4_, some v5_, some v6_, some v7_] _ _
    refine dsi_ret (ei_mod (C' := inR n) (ei_fdiv (C' := fun _ => True) (ei_mod (C' := fun _ => True) (ei_inti (A := fun _ => True) F (n_int T) (ei_add (ei_mul (C' := fun _ => True) (ei_int hi3 (de_v 7 h7) (A := fun _ => True) trivial) (ei_int hi3 de_int (A := (· = 48271)) rfl) fun i j a b => by subst b; exact ⟨.inr ⟨by omega, by omega⟩, trivial⟩) (ei_int hi3 (de_v 3 h3) (A := fun _ => True) trivial) fun _ _ _ _ => trivial)) (ei_int hi3 de_int (A := (· = 2147483647)) rfl) fun i j _ b => by subst b; exact ⟨by omega, trivial⟩) (ei_int hi3 de_int (A := (· = 11)) rfl) fun i j _ b => by subst b; exact ⟨⟨by omega, by omega⟩, trivial⟩) (ei_int hi3 (de_v 1 h1) (A := (· = n)) rfl) fun i j _ b => by subst b; exact ⟨by omega, inR_mod (by omega)⟩) i7 fun v d H8 e8 i8 h8 hd8 => ?_
    exact hq v d H8 (((((((e1.trans e2).trans e3).trans e4).trans e5).trans e6).trans e7).trans e8) ⟨_, _, _, i8, hc0, hcl, hsd0, hsd1, by omega, by omega⟩ h8 hd8
/-- one of the data of a list -/
def spOf (K : PySem.W.Frag) : Sp := fun vs H Q _ => ∃ (m : Md) (v : V) (ds : List PyData) (b : Nat), vs = [.ref m.p, v] ∧ Dp K H v (.list ds) ∧ ds ≠ [] ∧ ds.length ≤ 1000 ∧ MOk K m (b + 1) H ∧ ∀ v' d H', Up H H' → MOk K m b H' → Dp K H' v' d → d ∈ ds → Q v' H'
/-- draw(m, n) -/
theorem ei_draw {ι : Type} {Y : ι → Cx} {k : Nat} {σ : L2.St} {H : Hp} {e : Expr} {pos p0 mp : Pos} {xm : Str} {m : Md} {n : Int} (j : Nat) (b : Nat) (F : Fm P w K mg base k Y) (hj : σ[j]? = some (some (.ref m.p))) (h : DE Y K σ H e (.int n)) (h1 : 1 ≤ n) (h2 : n < 1073741824) (hk : 1 ≤ k := by decide) (hg : ∀ i, Gl (Y i) "_law_draw" := by intro _; rfl)
    (hN : ∀ i, (Y i).N[j]? = some xm := by intro _; rfl) (hv : ∀ i, Vis (Y i).env.scope xm := by intro _; first | exact Or.inl rfl | exact Or.inr (Or.inl rfl) | exact Or.inr (Or.inr rfl)) (hd : (xm == ("__debug__" : Str)) = false := by decide) (hcd : (xm == ("__classdict__" : Str)) = false := by decide)
    (he : ∀ i, starEach [.Name xm mp, e] (Y i).env = (false, eval (.Name xm mp) (Y i).env) :: starEach [e] (Y i).env := by intro _; rfl) (he2 : ∀ i, starEach [e] (Y i).env = (false, eval e (Y i).env) :: starEach [] (Y i).env := by intro _; rfl) (hpl : ∀ i, (backTo pos (starEach [e] (Y i).env)).any (·.1) = false := by intro _; rfl) :
    EI Y K σ H (MOk K m (b + 1)) (MOk K m b) (.Call (.Name "_law_draw" p0) [.Name xm mp, e] [] pos) (isI (inR n)) := by
  refine ei_call j F (f_law_draw T) hj (xa_d h xa_nil he2) si_ok (fun vs H1 u i1 hv Q q => ?_) hk hg hN hv hd hcd (by decide) he hpl
  obtain ⟨v, rfl, hv1⟩ := vxs1 hv
  exact ⟨m, v, n, b, rfl, hv1, h1, h2, i1, q⟩
theorem f_law_of : FnC P w K mg base 2 "_law_of" (spOf K) := by
  refine fnC_of (N := ["_law_m", "_law_some"]) (ps := ["_law_m", "_law_some"]) (h_law_of T) (m_law_of T) ⟨rfl, rfl, rfl, by decide +kernel, rfl, by decide +kernel, by decide +kernel⟩ (fun _ _ _ _ _ _ us hl => match us, hl with | [_, _], _ => rfl) (fun vs H Q E h => by
    obtain ⟨_, _, _, _, rfl, _⟩ := h
    rfl) fun cdv A outer s_ H vs Q E F h => ?_
  obtain ⟨m, v1_, ds, b, rfl, h1, hne, hl, hm, hq⟩ := h
  show DSs _ _ [some (.ref m.p), some v1_] _ _
  have hp : 0 < ds.length := List.length_pos_iff.mpr hne
  refine dsi_ret (ei_ixL F (ei_de si_ok (de_v 1 h1)) (ei_draw T 0 b F rfl (de_len F (n_len T) (de_v 1 h1) (.inr rfl)) (by omega) (by omega))) hm fun v d H' u i h hd => hq v d H' u i h hd
end
end PK
namespace PK
open L2 PySem PySem.Spec PyProof.Rows
section
variable {ι : Type} (Y : ι → Cx) (K : PySem.W.Frag)
/-- e comes to a list of its own of whose data P holds -/
def EF (σ : L2.St) (H : Hp) (I I' : Hp → Prop) (e : Expr) (P : List PyData → Prop) : Prop :=
  ∃ t : TE, (∀ i, PE (Y i) e t) ∧ ∀ H1, Up H H1 → I H1 → ∀ Q : VK, (∀ v ds H2, Up H1 H2 → I' H2 → FL K H2 v ds → P ds → (∀ p, v = .ref p → H1 p = none) → Q v H2) → t σ H1 Q
/-- the same of a comprehension: also where it is bound to a name on its line -/
def EL (σ : L2.St) (H : Hp) (I I' : Hp → Prop) (e : Expr) (P : List PyData → Prop) : Prop :=
  ∃ t : TE, (∀ i, PE (Y i) e t) ∧ (∀ i j y py spos, (Y i).N[j]? = some y → (Y i).env.scope.names.lookup y = some .local → swapsWith e (some (.Name y py)) spos.line (Y i).env = pure true → PS (Y i) (.Assign [.Name y py] e spos) (tAsg t (gName j))) ∧
    ∀ H1, Up H H1 → I H1 → ∀ Q : VK, (∀ v ds H2, Up H1 H2 → I' H2 → FL K H2 v ds → P ds → (∀ p, v = .ref p → H1 p = none) → Q v H2) → t σ H1 Q
end
/-- the growth of a new list leaves I as it is -/
def LI (I0 I : Hp → Prop) : Prop := ∀ H1 H A xs ys, I0 H1 → H1 A = none → Up H1 H → I H → H A = some (.lst xs) → I (upd H A (.lst ys))
theorem li_ok {K : PySem.W.Frag} {m : Md} {b b0 : Nat} : LI (MOk K m b0) (MOk K m b) := fun H1 H A xs ys h0 hA u h hx => MOk.lst h0 hA u h hx
section
variable {ι : Type} {Y : ι → Cx} {P : Program} {w : World} {K : PySem.W.Frag} {mg : Str → Option Value} {base : Heap} {k k' : Nat} {σ : L2.St} {H H' : Hp} {a b c e elt src tg : Expr} {es : List Expr} {pos p0 p2 tp : Pos} {d d1 d2 : PyData} {ds ds1 ds2 rs : List PyData} {x : Str} {b1 b2 : Bool} {D : Ends} {scope : Scope} {rest body els : List Stmt} {js : List Nat} {j : Nat} {I' : Hp → Prop} {Pl : List PyData → Prop} {m : Md}
theorem EF.ei {I : Hp → Prop} (h : EF Y K σ H I I' e Pl) : EI Y K σ H I I' e (fun d => ∃ ds, d = .list ds ∧ Pl ds) := by
  obtain ⟨t, ht, h⟩ := h
  exact ⟨t, ht, fun H1 e1 i1 Q q => h H1 e1 i1 Q fun v ds H2 e2 i2 h2 h3 _ => q v _ H2 e2 i2 h2.dp ⟨ds, rfl, h3⟩⟩
/-- a comprehension whose parts draw -/
theorem el_lc {own : List (Str × Nat)} {n : Nat} {im : Nat → PyData} {ok : PyData → List PyData → Prop} {fs : Nat → List PyData} (ifs : List Expr) (I J : Nat → Hp → Prop) (Pa : Nat → List PyData → Prop) (Pe : Nat → PyData → Prop) (F : Fm P w K mg base k Y) (hs : SE Y K σ H tg src n im) (htg : TBs (blkY Y scope) K tg js ok) (hown : own.map (·.2) = js) (hok : ∀ i, i < n → ok (im i) (fs i))
    (hz : n ≤ 16777216) (hblk : ∀ i, BlkOk (Y i).N (Y i).env.scope scope own) (hif : ifs = [] ∨ ∃ c, ifs = [c]) (hI : ∀ i, SI (I i)) (hL : ∀ i, LI (I 0) (I i)) (h0 : Pa 0 []) (hPe : ∀ i r, Pe i r → noL r = true) (hadd : ∀ i rs r, Pa i rs → Pe i r → Pa (i + 1) (rs ++ [r]))
    (ht : ∀ (i : Nat) (vs : List V) (H1 : Hp), Up H H1 → i < n → vs.length = js.length → DpAll K H1 vs (fs i) → (ifs = [] ∧ ∀ H, I i H → J i H) ∨ ∃ (c : Expr) (M : Hp → Prop) (Pz : Bool → Prop), ifs = [c] ∧ TI' (blkY Y scope) (sets js vs (wipe σ js)) H1 (I i) M c Pz ∧ (Pz true → ∀ H, M H → J i H) ∧ (Pz false → (∀ H, M H → I (i + 1) H) ∧ ∀ rs, Pa i rs → Pa (i + 1) rs))
    (he : ∀ (i : Nat) (vs : List V) (H1 : Hp), Up H H1 → i < n → vs.length = js.length → DpAll K H1 vs (fs i) → EI (blkY Y scope) K (sets js vs (wipe σ js)) H1 (J i) (I (i + 1)) elt (Pe i))
    (hfs : ∀ i x, foldedSetIterable src (Y i).env x = pure x := by intro _ _; rfl) : EL Y K σ H (I 0) (I n) (.ListComp elt [⟨tg, src, ifs, 0⟩] scope pos) (Pa n) := by
  obtain ⟨wi, hwi, q1⟩ := hs
  obtain ⟨g, hg, qg⟩ := htg
  have tt0 : ∃ tt : TT, (∀ q, PTs (blkY Y scope q) ifs tt) ∧ ∀ (i : Nat) (vs : List V) (H1 : Hp), Up H H1 → i < n → vs.length = js.length → DpAll K H1 vs (fs i) → I i H1 → ∀ Q : Bool → Hp → Prop, (∀ b H2, Up H1 H2 → (b = true → J i H2) → (b = false → I (i + 1) H2 ∧ ∀ rs, Pa i rs → Pa (i + 1) rs) → Q b H2) → tt (sets js vs (wipe σ js)) H1 Q := by
    rcases hif with rfl | ⟨c, rfl⟩
    · refine ⟨tYes, fun _ => pts_nil, fun i vs H1 u hi hl hd i1 Q q => ?_⟩
      rcases ht i vs H1 u hi hl hd with ⟨_, h⟩ | ⟨c, _, _, z, _⟩
      · exact q true H1 (Up.refl _) (fun _ => h _ i1) fun z => by cases z
      · cases z
    · refine ⟨ttB (blkY Y scope) c, fun q => pts_one (pt_ttB _ c q), fun i vs H1 u hi hl hd i1 Q q => ?_⟩
      rcases ht i vs H1 u hi hl hd with ⟨z, _⟩ | ⟨c', M, Pz, z, ⟨t, h2, h3⟩, h4, h5⟩
      · cases z
      · cases z
        exact ⟨t, h2, h3 H1 (Up.refl _) i1 Q fun b H2 e2 i2 hz => q b H2 e2 (fun hb => h4 (hb ▸ hz) _ i2) fun hb => ⟨(h5 (hb ▸ hz)).1 _ i2, (h5 (hb ▸ hz)).2⟩⟩
  obtain ⟨tt, htt, ht⟩ := tt0
  subst hown
  refine ⟨tLc wi g tt (teB (blkY Y scope) elt) (own.map (·.2)), fun i => pe_lc (F.calm i) (F.nd i) (hwi i) (hblk i) (fun s H C cl fp => hg (i, s, H, C, cl, fp)) (fun s H C cl fp => htt (i, s, H, C, cl, fp)) (fun s H C cl fp => pe_teB (blkY Y scope) elt (i, s, H, C, cl, fp)) (hfs i), fun i j y py spos hy hyl hsw => ps_setLc (F.calm i) (F.nd i) hy hyl hsw (hwi i) (hblk i) (fun s H C cl fp => hg (i, s, H, C, cl, fp)) (fun s H C cl fp => htt (i, s, H, C, cl, fp)) (fun s H C cl fp => pe_teB (blkY Y scope) elt (i, s, H, C, cl, fp)) (hfs i), fun H1 e1 i1 Q q => ?_⟩
  refine q1 H1 e1 _ fun Jt H2 e2 wk Dl hD => ?_
  obtain ⟨G, Yw, wk, hG, hY⟩ := wk
  have i2 : I 0 H2 := hI 0 _ _ e2 i1
  refine lc_it wk (fun i H' => Up H2 H' ∧ I i H' ∧ ∃ acc rs, H' Dl = some (.lst acc) ∧ DpAll K H' acc rs ∧ noLs rs = true ∧ rs.length ≤ i ∧ Pa i rs) ⟨up_of (same_new hD), hI 0 _ _ (same_new hD) i2, [], [], upd_same, .nil, rfl, Nat.le_refl _, h0⟩ (fun i H' _ p => hG H' p.1) (fun i y H' H'' hi p hy => ?_) fun H' p => ?_
  · obtain ⟨u1, j1, acc, rs, pa, px, pn, pl, pp⟩ := p
    obtain ⟨e3, hyd⟩ := hY i H' y H'' hi u1 hy
    refine qg _ _ (hok i hi) y _ H'' _ hyd fun vs hvs hvl => ⟨wipe_sets _ _ _, ?_⟩
    have uH : Up H H'' := ((e1.trans (up_of e2)).trans u1).trans (up_of e3)
    refine ht i vs H'' uH hi hvl hvs (hI i _ _ e3 j1) _ fun b H3 u3 hb1 hb2 => ?_
    have u4 : Up H2 H3 := (u1.trans (up_of e3)).trans u3
    have pa3 : H3 Dl = some (.lst acc) := u3 _ _ (e3 _ _ pa) (fun _ z => by cases z)
    have px3 := dpa_up ((up_of e3).trans u3) _ _ px
    cases b with
    | true =>
      obtain ⟨t, h2, h3⟩ := he i vs H3 (uH.trans u3) hi hvl (dpa_up u3 _ _ hvs)
      refine iteT ⟨t, h2, h3 H3 (Up.refl _) (hb1 rfl) _ fun v d H4 u5 i5 hv hd => ?_⟩
      have pa4 : H4 Dl = some (.lst acc) := u5 _ _ pa3 (fun _ z => by cases z)
      have px4 := dpa_up u5 _ _ px3
      have nd := hPe i d hd
      refine ⟨acc, pa4, ?_, fun a o ho n => ?_, hL (i + 1) H2 H4 Dl acc _ i2 hD (u4.trans u5) i5 pa4, _, rs ++ [d], upd_same, dpa_app (dpa_upT (upT_lst pa4) _ _ pn px4) (.cons (dp_upT (upT_lst pa4) _ _ nd hv) .nil), noLs_app pn (by unfold noLs; rw [nd] <;> rfl), by simp; omega, hadd i rs d pp hd⟩
      · rw [dpa_snd px4, sizeLine_eq]
        omega
      · rw [upd_ne (ne_of_none ho hD)]
        exact (u4.trans u5) a o ho n
    | false =>
      obtain ⟨i5, h5⟩ := hb2 rfl
      exact iteF ⟨u4, i5, acc, rs, pa3, px3, pn, by omega, h5 rs pp⟩
  · obtain ⟨u1, j1, acc, rs, pa, px, pn, pl, pp⟩ := p
    refine q _ rs H' ((up_of e2).trans u1) j1 ⟨Dl, acc, rfl, pa, px⟩ pp fun p hp => ?_
    cases hp
    cases hx : H1 Dl with
    | none => rfl
    | some o =>
      rw [e2 _ _ hx] at hD
      cases hD
theorem EL.ef {I : Hp → Prop} (h : EL Y K σ H I I' e Pl) : EF Y K σ H I I' e Pl := by
  obtain ⟨t, h1, _, h3⟩ := h
  exact ⟨t, h1, h3⟩
theorem dsi_lc (j : Nat) {I : Hp → Prop} {py : Pos} (h : EL Y K σ H I I' e Pl) (hi0 : I H) (hk : ∀ v ds H1, Up H H1 → I' H1 → FL K H1 v ds → Pl ds → (∀ p, v = .ref p → H p = none) → DSs Y D (σ.set j (some v)) H1 rest) (hi : ∀ l, (Y l).N[j]? = some x := by intro _; rfl) (hx : ∀ l, (Y l).env.scope.names.lookup x = some .local := by intro _; rfl)
    (hs : ∀ l, swapsWith e (some (.Name x py)) pos.line (Y l).env = pure true := by intro _; rfl) : DSs Y D σ H (.Assign [.Name x py] e pos :: rest) := by
  obtain ⟨t, _, ht, h⟩ := h
  exact ds_cons ⟨tAsg t (gName j), fun l => ht l j x py pos (hi l) (hx l) (hs l), h H (Up.refl H) hi0 _ fun v ds H1 e1 i1 h1 h2 h3 => hk v ds H1 e1 i1 h1 h2 h3⟩
theorem dsi_setF (j : Nat) {I : Hp → Prop} {pos' : Pos} (h : EF Y K σ H I I' e Pl) (hi0 : I H) (hk : ∀ v ds H1, Up H H1 → I' H1 → FL K H1 v ds → Pl ds → (∀ p, v = .ref p → H p = none) → DSs Y D (σ.set j (some v)) H1 rest) (F : Fm P w K mg base k Y) (hi : ∀ l, (Y l).N[j]? = some x := by intro _; rfl) (hx : ∀ l, Loc (Y l).env.scope x := by intro _; first | exact Or.inl rfl | exact Or.inr rfl)
    (hs : ∀ l, swapsWith e (some (.Name x pos')) pos.line (Y l).env = pure false := by intro _; rfl) (hf : ∀ l, (Y l).fn x = true ∨ (Y l).env.scope.names.lookup x = some .local := by intro _; first | exact .inl rfl | exact .inr rfl) : DSs Y D σ H (.Assign [.Name x pos'] e pos :: rest) := by
  obtain ⟨t, ht, h⟩ := h
  exact ds_cons ⟨tAsg t (gName j), fun l => ps_set (F.nd l) (hi l) (hx l) (ht l) (hs l) (hf l), h H (Up.refl H) hi0 _ fun v ds H1 e1 i1 h1 h2 h3 => hk v ds H1 e1 i1 h1 h2 h3⟩
/-- xs[-1] = e, xs a list made since H0 -/
theorem dsi_last (j : Nat) {I : Hp → Prop} {Pa : PyData → Prop} {H0 : Hp} {p : Addr} {xn : Str} {xp pos' ip cp : Pos} {kj : Nat} (F : Fm P w K mg base k Y) (hj : σ[j]? = some (some (.ref p))) (h : EI Y K σ H I I' e Pa) (hi0 : I H) (hfl : FL K H (.ref p) ds) (hne : ds ≠ []) (hno : noLs ds = true) (hP : ∀ d, Pa d → noL d = true) (h0 : H0 p = none) (u0 : Up H0 H)
    (hI' : ∀ H1 xs ys, Up H0 H1 → I' H1 → H1 p = some (.lst xs) → I' (upd H1 p (.lst ys)))
    (hk : ∀ d H1, Up H0 H1 → I' H1 → Pa d → FL K H1 (.ref p) (ds.set (ds.length - 1) d) → DSs Y D σ H1 rest) (hN : ∀ i, (Y i).N[j]? = some xn := by intro _; rfl)
    (hv : ∀ i, Vis (Y i).env.scope xn := by intro _; first | exact Or.inl rfl | exact Or.inr (Or.inl rfl) | exact Or.inr (Or.inr rfl)) (hd : (xn == ("__debug__" : Str)) = false := by decide) (hcd : (xn == ("__classdict__" : Str)) = false := by decide)
    (hs : ∀ i, swapsWithSole [.Subscript (.Name xn xp) (.UnaryOp .USub (.Constant (.int 1) kj cp) ip) pos'] e pos.line (Y i).env = pure false := by intro _; rfl) (hw : ∀ i, swappedStores [.Subscript (.Name xn xp) (.UnaryOp .USub (.Constant (.int 1) kj cp) ip) pos'] e (Y i).env = pure none := by intro _; rfl) :
    DSs Y D σ H (.Assign [.Subscript (.Name xn xp) (.UnaryOp .USub (.Constant (.int 1) kj cp) ip) pos'] e pos :: rest) := by
  obtain ⟨t, ht, h⟩ := h
  refine ds_cons ⟨tAsg t (gSub (tVar j) _ rSetL), fun i => ps_asg (ht i) (pg_sub (pe_var (hN i) (hv i) hd hcd) (pe_un un_neg pe_int) set_list) (hs i) (hw i), h H (Up.refl H) hi0 _ fun v d H1 e1 i1 h1 hpd => ?_⟩
  obtain ⟨p', xs, hp', hpx, hx⟩ := hfl.up e1
  cases hp'
  have hlen := dpa_snd hx
  have hpos : 0 < ds.length := List.length_pos_iff.mpr hne
  refine ⟨.ref p, hj, 1, rfl, p, xs, -1, ds.length - 1, rfl, rfl, hpx, ?_, ?_⟩
  · unfold ixN
    rw [if_neg (by omega), hlen]
    rw [if_pos (by omega)]
    congr 1
    omega
  · have nd := hP d hpd
    have setD : ∀ (ds : List PyData) (xs : List V) (i : Nat) (H2 : Hp), DpAll K H2 xs ds → Dp K H2 v d → DpAll K H2 (xs.set i v) (ds.set i d) := by
      intro ds
      induction ds with
      | nil =>
        intro xs i H2 h _
        cases h
        exact .nil
      | cons a r ih =>
        intro xs i H2 h hv
        cases h with
        | cons h1 h2 =>
          cases i with
          | zero => exact .cons hv h2
          | succ i => exact .cons h1 (ih _ i H2 h2 hv)
    refine hk d _ (fun a o ho n => ?_) (hI' H1 xs _ (u0.trans e1) i1 hpx) hpd ⟨p, _, rfl, upd_same, setD _ _ _ _ (dpa_upT (upT_lst hpx) _ _ hno hx) (dp_upT (upT_lst hpx) _ _ nd h1)⟩
    rw [upd_ne (ne_of_none ho h0)]
    exact (u0.trans e1) a o ho n
end
end PK
namespace PK
open L2 PySem PySem.Spec PyProof.Rows
def condL (k : Str) : List Str := if k = "read" then ["plain", "stamp", "tag", "look"] else if k = "put" then ["plain", "stamp", "tag", "there", "none"] else ["plain", "stamp", "tag", "there"]
def stL (s : Str) : List Cp := if s = "gone" then [some (0, 0, 0, 0), some (0, 0, 0, 1)] else if s = "never" then [] else
  [some (1, 1, 1, if s = "fresh" then 1 else 0), some (0, 1, 1, if s = "fresh" then 1 else 0), some (0, 1, 0, 0), some (0, 0, 1, if s = "fresh" then 1 else 0), some (0, 0, 0, 0)]
section
variable {P : Program} {w : World} {K : PySem.W.Frag} {mg : Str → Option Value} {base : Heap} (T : Txt w K mg)
include T
def pre_law_conditions (xs : List Dx) (r : PyData) : Prop := ∃ (k : Str), xs = [.d (.str k)] ∧ (k = "read" ∨ k = "put" ∨ k = "take") ∧ r = .list ((condL k).map .str)
theorem f_law_conditions : FnC P w K mg base 1 "_law_conditions" (Spf K pre_law_conditions) := by
  refine fnC_pure (N := ["_law_kind", "_law_found"]) (ps := ["_law_kind"]) (h_law_conditions T) (m_law_conditions T) ⟨rfl, rfl, rfl, by decide +kernel, rfl, by decide +kernel, by decide +kernel⟩ (fun _ _ _ _ _ _ us hl => match us, hl with | [_], _ => rfl) (fun xs r h => by
    obtain ⟨_, rfl, _⟩ := h
    rfl) ?_
  intro Y cdv A outer s_ H vs xs r Q E hY F hv hp hq
  subst hY
  obtain ⟨k, rfl, hc, rfl⟩ := hp
  obtain ⟨v0_, rfl, h0⟩ := vxs1 hv
  show DSs _ _ [some v0_, _] _ _
  (rcases hc with rfl | rfl | rfl) <;> (
    refine ds_set (F := F) 1 (de_lst (K := K) (xa_d de_str (xa_d de_str (xa_d de_str xa_nil)))) fun v1_ H1 e1 h1 => ?_
    replace h0 := dp_up (up_of e1) _ _ h0
    replace hq := hq.up e1
    show DSs _ _ [some v0_, some v1_] _ _
    exact ds_ret (de_fl (fl_cat F (de_v 1 h1) (by first | exact de_dv_at F (er_disp (K := K) (pd_cons (de_lst (K := K) (xa_d de_str xa_nil)) (pd_cons (de_lst (K := K) (xa_d de_str (xa_d de_str xa_nil))) (pd_cons (de_lst (K := K) (xa_d de_str xa_nil)) pd_nil)))) (de_v 0 h0) 0 (fun ws hl => match ws, hl with | [_, _, _], _ => rfl) rfl | exact de_dv_at F (er_disp (K := K) (pd_cons (de_lst (K := K) (xa_d de_str xa_nil)) (pd_cons (de_lst (K := K) (xa_d de_str (xa_d de_str xa_nil))) (pd_cons (de_lst (K := K) (xa_d de_str xa_nil)) pd_nil)))) (de_v 0 h0) 1 (fun ws hl => match ws, hl with | [_, _, _], _ => rfl) rfl | exact de_dv_at F (er_disp (K := K) (pd_cons (de_lst (K := K) (xa_d de_str xa_nil)) (pd_cons (de_lst (K := K) (xa_d de_str (xa_d de_str xa_nil))) (pd_cons (de_lst (K := K) (xa_d de_str xa_nil)) pd_nil)))) (de_v 0 h0) 2 (fun ws hl => match ws, hl with | [_, _, _], _ => rfl) rfl))) hq (by rfl))
def pre_law_standings_at (xs : List Dx) (r : PyData) : Prop := ∃ (s : Str), xs = [.d (.str s)] ∧ (SrvOk s) ∧ r = .list ((stL s).map cpD)
theorem f_law_standings_at : FnC P w K mg base 1 "_law_standings_at" (Spf K pre_law_standings_at) := by
  refine fnC_pure (N := ["_law_server", "_law_n"]) (ps := ["_law_server"]) (h_law_standings_at T) (m_law_standings_at T) ⟨rfl, rfl, rfl, by decide +kernel, rfl, by decide +kernel, by decide +kernel⟩ (fun _ _ _ _ _ _ us hl => match us, hl with | [_], _ => rfl) (fun xs r h => by
    obtain ⟨_, rfl, _⟩ := h
    rfl) ?_
  intro Y cdv A outer s_ H vs xs r Q E hY F hv hp hq
  subst hY
  obtain ⟨s, rfl, hc, rfl⟩ := hp
  obtain ⟨v0_, rfl, h0⟩ := vxs1 hv
  show DSs _ _ [some v0_, _] _ _
  (rcases hc with rfl | rfl | rfl | rfl) <;> (
    refine ds_if (dt_cmp (de_v 0 h0) (de_tup (xa_d de_str (xa_d de_str xa_nil))) (by first | exact cm_inS F | exact cm_inS F (by assumption) | exact cm_inD F (by first | rfl | exact shaped_cp _) (by first | rfl | assumption))) (fun hb1 H1 e1 => ?_) (fun hb1 H1 e1 => ?_)
    · try first | exact Bool.noConfusion (show false = true from hb1) | exact absurd hb1 (by decide)
      all_goals
        (replace h0 := dp_up (up_of e1) _ _ h0
         replace hq := hq.up e1
         exact ds_ret (de_if (dt_cmp (de_v 0 h0) de_str (by first | exact cm_eqs | exact cm_eqi | exact cm_eqb | exact cm_eqD F (by first | rfl | exact shaped_cp _ | exact shaped_lt _) (by first | rfl | exact shaped_cp _))) (fun hb2 => (de_lst (K := K) (xa_d (de_tup (xa_d de_int (xa_d de_int (xa_d de_int (xa_d de_int xa_nil))))) (xa_d (de_tup (xa_d de_int (xa_d de_int (xa_d de_int (xa_d de_int xa_nil))))) xa_nil)))) fun hb2 => (de_lst (K := K) xa_nil)) hq (by rfl))
    · try first | exact Bool.noConfusion (show true = false from hb1) | exact absurd hb1 (by decide)
      all_goals
        (replace h0 := dp_up (up_of e1) _ _ h0
         replace hq := hq.up e1
         refine ds_set (F := F) 1 (de_intb F (n_int T) (de_cmp (de_v 0 h0) de_str (by first | exact cm_eqs | exact cm_eqi | exact cm_eqb | exact cm_eqD F (by first | rfl | exact shaped_cp _ | exact shaped_lt _) (by first | rfl | exact shaped_cp _)))) fun v1_ H3 e3 h1 => ?_
         replace h0 := dp_up (up_of e3) _ _ h0
         replace hq := hq.up e3
         show DSs _ _ [some v0_, some v1_] _ _
         exact ds_ret (de_lst (K := K) (xa_d (de_tup (xa_d de_int (xa_d de_int (xa_d de_int (xa_d (de_v 1 h1) xa_nil))))) (xa_d (de_tup (xa_d de_int (xa_d de_int (xa_d de_int (xa_d (de_v 1 h1) xa_nil))))) (xa_d (de_tup (xa_d de_int (xa_d de_int (xa_d de_int (xa_d de_int xa_nil))))) (xa_d (de_tup (xa_d de_int (xa_d de_int (xa_d de_int (xa_d (de_v 1 h1) xa_nil))))) (xa_d (de_tup (xa_d de_int (xa_d de_int (xa_d de_int (xa_d de_int xa_nil))))) xa_nil)))))) hq (by rfl)))
end
end PK
namespace PK
open L2 PySem PySem.Spec PyProof.Rows
section
variable {ι : Type} {Y : ι → Cx} {P : Program} {w : World} {K : PySem.W.Frag} {mg : Str → Option Value} {base : Heap} {k k' : Nat} {σ : L2.St} {H H' : Hp} {a b c e elt src tg : Expr} {es : List Expr} {pos p0 p2 tp mp : Pos} {d d1 d2 : PyData} {ds ds1 ds2 rs : List PyData} {x xm : Str} {b1 b2 : Bool} {D : Ends} {scope : Scope} {rest body els : List Stmt} {js : List Nat} {I I1 I2 I' : Hp → Prop} {Pa Pb : PyData → Prop} {P1 P2 : List PyData → Prop} {m : Md}
/-- a slice of a list -/
theorem fl_sl {lo hi : Option Expr} {l u : Option Int} (F : Fm P w K mg base k Y) (ha : DE Y K σ H a (.list ds)) (hl : OE Y σ H lo l) (hu : OE Y σ H hi u) : ER Y σ H (.Subscript a (.Slice lo hi none p2) pos) fun v H' => FL K H' v (cutD ds l u) := by
  obtain ⟨t1, h1, q1⟩ := ha
  obtain ⟨t2, h2, q2⟩ := hl
  obtain ⟨t3, h3, q3⟩ := hu
  refine ⟨tSl (rSlL K) t1 t2 t3, fun i => pe_slice (by
    have q := sl_list (X := Y i)
    rw [F.hK i] at q
    exact q) (h1 i) (h2 i) (h3 i), fun H1 e1 Q q => q1 H1 e1 _ fun v H2 e2 hv => q2 H2 (e1.trans (up_of e2)) _ fun H3 e3 => q3 H3 ((e1.trans (up_of e2)).trans (up_of e3)) _ fun H4 e4 => ?_⟩
  cases dp_up (up_of (e3.trans e4)) _ _ hv with
  | lst ht hx => exact ⟨_, _, rfl, ht, fun p hp => q _ _ (((e2.trans e3).trans e4).trans (same_new hp)) ⟨p, _, rfl, upd_same, dpa_up (up_of (same_new hp)) _ _ (cutD_of l u hx)⟩⟩
/-- a sum of tuples -/
theorem ei_catT (F : Fm P w K mg base k Y) (hI : SI I2) (ha : EI Y K σ H I I1 a (fun d => ∃ ds, d = .tuple ds ∧ P1 ds)) (hb : EI Y K σ H I1 I2 b (fun d => ∃ ds, d = .tuple ds ∧ P2 ds)) (hz : ∀ x y, P1 x → P2 y → x.length + y.length ≤ 16777216) : EI Y K σ H I I2 (.BinOp a .Add b pos) (fun d => ∃ x y, d = .tuple (x ++ y) ∧ P1 x ∧ P2 y) := by
  obtain ⟨t1, h1, q1⟩ := ha
  obtain ⟨t2, h2, q2⟩ := hb
  refine ⟨tOp (rCatA K) t1 t2, fun i => pe_op (by
    have q := op_catA (X := Y i)
    rw [F.hK i] at q
    exact q) (h1 i) (h2 i), fun H1 e1 i1 Q q => q1 H1 e1 i1 _ fun v d H2 e2 i2 hv hd => q2 H2 (e1.trans e2) i2 _ fun u d' H3 e3 i3 hu hd' => ?_⟩
  obtain ⟨x, rfl, hx1⟩ := hd
  obtain ⟨y, rfl, hy1⟩ := hd'
  cases dp_up e3 _ _ hv with
  | tup ht hx =>
    cases hu with
    | tup ht2 hx2 =>
      have l1 := dpa_snd hx
      have l2 := dpa_snd hx2
      refine ⟨_, _, _, _, rfl, rfl, ht, ht2, by rw [l1, l2, sizeLine_eq]; exact hz x y hx1 hy1, fun z => ?_, fun _ z => ?_, fun _ _ p hp => ?_⟩
      · subst z
        have : x = [] := List.eq_nil_of_length_eq_zero (by rw [← l1]; rfl)
        subst this
        exact q _ _ H3 (e2.trans e3) i3 (.tup ht2 hx2) ⟨[], y, rfl, hx1, hy1⟩
      · subst z
        have : y = [] := List.eq_nil_of_length_eq_zero (by rw [← l2]; rfl)
        subst this
        exact q _ (.tuple (x ++ [])) H3 (e2.trans e3) i3 (by rw [List.append_nil]; exact .tup ht hx) ⟨x, [], rfl, hx1, hy1⟩
      · exact q _ _ _ ((e2.trans e3).trans (up_of (same_new hp))) (hI _ _ (same_new hp) i3) (.tup (SqT.of upd_same) (dpa_up (up_of (same_new hp)) _ _ (dpa_app hx hx2))) ⟨x, y, rfl, hx1, hy1⟩
/-- a choice by a plain test -/
theorem ei_if (hI : SI I) (hc : DT Y σ H c b1) (ha : b1 = true → EI Y K σ H I I' a Pa) (hb : b1 = false → EI Y K σ H I I' b Pa) : EI Y K σ H I I' (.IfExp c a b pos) Pa := by
  obtain ⟨t1, h1, q1⟩ := hc
  cases b1 with
  | true =>
    obtain ⟨t2, h2, q2⟩ := ha rfl
    exact ⟨tIf t1 t2 fun _ _ _ => False, fun i => pe_ifExp (h1 i) (h2 i) pe_no, fun H1 e1 i1 Q q => q1 H1 e1 _ fun H2 e2 => iteT (q2 H2 (e1.trans (up_of e2)) (hI _ _ e2 i1) Q fun v d H3 e3 i3 h3 h4 => q v d H3 ((up_of e2).trans e3) i3 h3 h4)⟩
  | false =>
    obtain ⟨t2, h2, q2⟩ := hb rfl
    exact ⟨tIf t1 (fun _ _ _ => False) t2, fun i => pe_ifExp (h1 i) pe_no (h2 i), fun H1 e1 i1 Q q => q1 H1 e1 _ fun H2 e2 => iteF (q2 H2 (e1.trans (up_of e2)) (hI _ _ e2 i1) Q fun v d H3 e3 i3 h3 h4 => q v d H3 ((up_of e2).trans e3) i3 h3 h4)⟩
/-- of(m, e) -/
theorem ei_of (T : Txt w K mg) (j : Nat) (b : Nat) (F : Fm P w K mg base k Y) (hj : σ[j]? = some (some (.ref m.p))) (h : DE Y K σ H e (.list ds)) (h1 : ds ≠ []) (h2 : ds.length ≤ 1000) (hk : 2 ≤ k := by decide) (hg : ∀ i, Gl (Y i) "_law_of" := by intro _; rfl)
    (hN : ∀ i, (Y i).N[j]? = some xm := by intro _; rfl) (hv : ∀ i, Vis (Y i).env.scope xm := by intro _; first | exact Or.inl rfl | exact Or.inr (Or.inl rfl) | exact Or.inr (Or.inr rfl)) (hd : (xm == ("__debug__" : Str)) = false := by decide) (hcd : (xm == ("__classdict__" : Str)) = false := by decide)
    (he : ∀ i, starEach [.Name xm mp, e] (Y i).env = (false, eval (.Name xm mp) (Y i).env) :: starEach [e] (Y i).env := by intro _; rfl) (he2 : ∀ i, starEach [e] (Y i).env = (false, eval e (Y i).env) :: starEach [] (Y i).env := by intro _; rfl) (hpl : ∀ i, (backTo pos (starEach [e] (Y i).env)).any (·.1) = false := by intro _; rfl) :
    EI Y K σ H (MOk K m (b + 1)) (MOk K m b) (.Call (.Name "_law_of" p0) [.Name xm mp, e] [] pos) (· ∈ ds) := by
  refine ei_call j F (f_law_of T) hj (xa_d h xa_nil he2) si_ok (fun vs H1 u i1 hv Q q => ?_) hk hg hN hv hd hcd (by decide) he hpl
  obtain ⟨v, rfl, hv1⟩ := vxs1 hv
  exact ⟨m, v, ds, b, rfl, hv1, h1, h2, i1, q⟩
end
end PK
namespace PK
open L2 PySem PySem.Spec PyProof.Rows
/-- a drawn step of a script of t steps -/
def spAnyStep (K : PySem.W.Frag) : Sp := fun vs H Q _ => ∃ (m : Md) (v : V) (t : Int) (b : Nat), vs = [.ref m.p, v] ∧ Dp K H v (.int t) ∧ 1 ≤ t ∧ t < 1000 ∧ MOk K m (b + 8) H ∧ ∀ v' o H', Up H H' → MOk K m b H' → Dp K H' v' (Stp.d o) → StpOk t o → Q v' H'
theorem five {t : Int} {rs : List PyData} (hl : rs.length = 5) (h : ∀ d ∈ rs, isI (inR t) d) : ∃ a b c d e : Int, rs = [.int a, .int b, .int c, .int d, .int e] ∧ NxOk t a ∧ NxOk t b ∧ NxOk t c ∧ NxOk t d ∧ NxOk t e := by
  match rs, hl with
  | [x1, x2, x3, x4, x5], _ =>
    obtain ⟨a, rfl, ha⟩ := h x1 (by simp)
    obtain ⟨b, rfl, hb⟩ := h x2 (by simp)
    obtain ⟨c, rfl, hc⟩ := h x3 (by simp)
    obtain ⟨d, rfl, hd⟩ := h x4 (by simp)
    obtain ⟨e, rfl, he⟩ := h x5 (by simp)
    exact ⟨a, b, c, d, e, rfl, ha, hb, hc, hd, he⟩
section
variable {P : Program} {w : World} {K : PySem.W.Frag} {mg : Str → Option Value} {base : Heap} (T : Txt w K mg)
include T
theorem f_law_any_step : FnC P w K mg base 3 "_law_any_step" (spAnyStep K) := by
  refine fnC_of (N := ["_law_m", "_law_total", "_law_way", "_law_nexts", "_law_size", "_law_k"]) (ps := ["_law_m", "_law_total"]) (h_law_any_step T) (m_law_any_step T) ⟨rfl, rfl, rfl, by decide +kernel, rfl, by decide +kernel, by decide +kernel⟩ (fun _ _ _ _ _ _ us hl => match us, hl with | [_, _], _ => rfl) (fun vs H Q E h => by
    obtain ⟨_, _, _, _, rfl, _⟩ := h
    rfl) fun cdv A outer s_ H vs Q E F h => ?_
  obtain ⟨m, v1_, t, b, rfl, h1, ht1, ht2, hm, hq⟩ := h
  show DSs _ _ [some (.ref m.p), some v1_, _, _, _, _] _ _
  refine dsi_par (jx := 2) (jy := 3) F (ei_draw T 0 (b + 7) F rfl de_int (by decide) (by decide)) ((EF.ei (EL.ef <| el_lc (own := [("_law_k", 5)]) (js := [5]) (n := 5) (fs := fun i => [.int (i : Nat)]) [] (fun i => MOk K m (b + 2 + (5 - i))) (fun i => MOk K m (b + 2 + (5 - i))) (fun i rs => rs.length = i ∧ ∀ d ∈ rs, isI (inR t) d) (fun _ => isI (inR t)) F (se_range F (n_range T) de_int (by decide) (by decide)) (tb_name 5 (F.blk _)) rfl (fun i hi => rfl) (by decide) (by intro _; show BlkOk ["_law_m", "_law_total", "_law_way", "_law_nexts", "_law_size", "_law_k"] (defScope s_law_any_step) _ _; exact ⟨rfl, by decide +kernel, by decide +kernel, by decide +kernel, by decide +kernel⟩) (.inl rfl) (fun i => si_ok) (fun i => li_ok) ⟨rfl, fun d h => by cases h⟩ (fun i r h => by
      obtain ⟨n, rfl, _⟩ := h
      rfl) (fun i rs r h hr => ⟨by rw [List.length_append, h.1] <;> rfl, fun d hd => by
      rcases List.mem_append.mp hd with hd | hd
      · exact h.2 d hd
      · rw [List.mem_singleton.mp hd]
        exact hr⟩) (fun i vs H1 u hi hl hd => .inl ⟨rfl, fun _ h => h⟩) (fun i vs H1 u hi hl hd => by
      obtain ⟨v5_, rfl, h5⟩ := dpa1 hd
      have e : b + 2 + (5 - i) = b + 2 + (5 - (i + 1)) + 1 := by
        have : i < 5 := hi
        omega
      rw [e]
      exact ei_draw T 0 _ (F.blk _) rfl (de_v 1 (dp_up u _ _ h1)) (by omega) (by omega)))).pre (I1 := MOk K m (b + 7)) fun H h => h.le (by omega)) hm fun v2_ v3_ d2 d3 H1 e1 i1 h2 hd2 h3 hd3 => ?_
  obtain ⟨wy, rfl, hw0, hw1⟩ := hd2
  obtain ⟨rs, rfl, hrl, hrs⟩ := hd3
  obtain ⟨a, b1, c, d, e, rfl, ha, hb, hc, hd, he⟩ := five hrl hrs
  replace i1 : MOk K m (b + 2) H1 := i1.le (by omega)
  replace h1 := dp_up e1 _ _ h1
  show DSs _ _ [some (.ref m.p), some v1_, some v2_, some v3_, _, _] _ _
  have hcond : ∀ k : Str, (condL k).map PyData.str ≠ [] ∧ ((condL k).map PyData.str).length ≤ 1000 := fun k => by
    unfold condL
    split
    · exact ⟨by simp, by simp⟩
    split
    · exact ⟨by simp, by simp⟩
    · exact ⟨by simp, by simp⟩
  refine ds_if (dt_cmp (de_v 2 h2) de_int cm_lt) (fun hz H2 e2 => ?_) (fun hz H2 e2 => ?_)
  · replace h3 := dp_up (up_of e2) _ _ h3
    refine dsi_ret (ei_catT F si_ok (ei_tup si_ok (ea_cons (ei_de si_ok de_str) (ea_cons ((ei_of T 0 (b + 1) F rfl (de_f F (f_law_conditions T) (xa_d de_str xa_nil) ⟨_, rfl, .inl rfl, rfl⟩) (hcond _).1 (hcond _).2)) ea_nil)) (fun ds h => by
      obtain ⟨_, _, rfl, _, _, _, rfl, _, rfl⟩ := h
      show 2 ≤ _
      omega)) ((ei_de si_ok (de_tupleOf F (n_tuple T) (de_v 3 h3) (.inr rfl))).mono (Pb := fun d' => ∃ ds, d' = .tuple ds ∧ ds = [.int a, .int b1, .int c, .int d, .int e]) fun d' q => ⟨_, q, rfl⟩) (fun x y h1 h2 => by
      obtain ⟨_, _, rfl, _, _, _, rfl, _, rfl⟩ := h1
      subst h2
      show 7 ≤ _
      omega)) (si_ok _ _ e2 i1) fun v d' H' u i' h' hd' => ?_
    obtain ⟨x, y, rfl, ⟨_, _, rfl, rfl, _, _, rfl, hk, rfl⟩, rfl⟩ := hd'
    obtain ⟨k', hk', rfl⟩ := List.mem_map.mp hk
    refine hq v (.read k' a b1 c d e) H' ((e1.trans (up_of e2)).trans u) (i'.le (by omega)) h' ⟨?_, ha, hb, hc, hd, he⟩
    have hk' : k' ∈ (["plain", "stamp", "tag", "look"] : List Str) := hk'
    simp at hk'
    unfold ReadC
    rcases hk' with rfl | rfl | rfl | rfl <;> simp
  · refine ds_if (dt_cmp (de_v 2 (dp_up (up_of e2) _ _ h2)) de_int cm_lt) (fun hz H3 e3 => ?_) (fun hz H3 e3 => ?_)
    · replace h3 := dp_up (up_of (e2.trans e3)) _ _ h3
      refine dsi_set 4 (ei_of T 0 (b + 1) F rfl (de_lst (K := K) (xa_d de_str (xa_d de_str xa_nil))) (by simp [unD]) (by simp [unD])) (si_ok _ _ (e2.trans e3) i1) (fun v4_ d4 H4 e4 i4 h4 hd4 => ?_) F
      have hz : ∃ z : Str, d4 = .str z ∧ (z = "small" ∨ z = "great") := by
        have hd4 : d4 ∈ ([.str "small", .str "great"] : List PyData) := hd4
        simp at hd4
        rcases hd4 with rfl | rfl
        · exact ⟨_, rfl, .inl rfl⟩
        · exact ⟨_, rfl, .inr rfl⟩
      obtain ⟨z, rfl, hz⟩ := hz
      replace h3 := dp_up e4 _ _ h3
      show DSs _ _ [some (.ref m.p), some v1_, some v2_, some v3_, some v4_, _] _ _
      refine dsi_ret (ei_catT F si_ok (ei_tup si_ok (ea_cons (ei_de si_ok de_str) (ea_cons ((ei_of T 0 b F rfl (de_f F (f_law_conditions T) (xa_d de_str xa_nil) ⟨_, rfl, .inr (.inl rfl), rfl⟩) (hcond _).1 (hcond _).2)) (ea_cons (ei_de si_ok (de_v 4 h4)) ea_nil))) (fun ds h => by
        obtain ⟨_, _, rfl, _, _, _, rfl, _, _, _, rfl, _, rfl⟩ := h
        show 3 ≤ _
        omega)) ((ei_de si_ok (de_tupleOf F (n_tuple T) (de_fl (fl_sl F (de_v 3 h3) oe_none (oe_some (K := K) de_int))) (.inr rfl))).mono (Pb := fun d' => ∃ ds, d' = .tuple ds ∧ ds = [.int a, .int b1, .int c]) fun d' q => ⟨_, q, rfl⟩) (fun x y h1 h2 => by
        obtain ⟨_, _, rfl, _, _, _, rfl, _, _, _, rfl, _, rfl⟩ := h1
        subst h2
        show 6 ≤ _
        omega)) i4 fun v d' H' u i' h' hd' => ?_
      obtain ⟨x, y, rfl, ⟨_, _, rfl, rfl, _, _, rfl, hk, _, _, rfl, rfl, rfl⟩, rfl⟩ := hd'
      obtain ⟨k', hk', rfl⟩ := List.mem_map.mp hk
      refine hq v (.put k' z a b1 c) H' (((e1.trans (up_of (e2.trans e3))).trans e4).trans u) i' h' ⟨?_, hz, ha, hb, hc⟩
      have hk' : k' ∈ (["plain", "stamp", "tag", "there", "none"] : List Str) := hk'
      simp at hk'
      unfold PutC
      rcases hk' with rfl | rfl | rfl | rfl | rfl <;> simp
    · have e23 := e2.trans e3
      refine ds_if (dt_cmp (de_v 2 (dp_up (up_of e23) _ _ h2)) de_int cm_eqi) (fun hz H4 e4 => ?_) (fun hz H4 e4 => ?_)
      · replace h3 := dp_up (up_of (e23.trans e4)) _ _ h3
        refine dsi_ret (ei_catT F si_ok (ei_tup si_ok (ea_cons (ei_de si_ok de_str) (ea_cons ((ei_of T 0 (b + 1) F rfl (de_f F (f_law_conditions T) (xa_d de_str xa_nil) ⟨_, rfl, .inr (.inr rfl), rfl⟩) (hcond _).1 (hcond _).2)) ea_nil)) (fun ds h => by
          obtain ⟨_, _, rfl, _, _, _, rfl, _, rfl⟩ := h
          show 2 ≤ _
          omega)) ((ei_de si_ok (de_tupleOf F (n_tuple T) (de_fl (fl_sl F (de_v 3 h3) oe_none (oe_some (K := K) de_int))) (.inr rfl))).mono (Pb := fun d' => ∃ ds, d' = .tuple ds ∧ ds = [.int a, .int b1, .int c, .int d]) fun d' q => ⟨_, q, rfl⟩) (fun x y h1 h2 => by
          obtain ⟨_, _, rfl, _, _, _, rfl, _, rfl⟩ := h1
          subst h2
          show 6 ≤ _
          omega)) (si_ok _ _ (e23.trans e4) i1) fun v d' H' u i' h' hd' => ?_
        obtain ⟨x, y, rfl, ⟨_, _, rfl, rfl, _, _, rfl, hk, rfl⟩, rfl⟩ := hd'
        obtain ⟨k', hk', rfl⟩ := List.mem_map.mp hk
        refine hq v (.take k' a b1 c d) H' ((e1.trans (up_of (e23.trans e4))).trans u) (i'.le (by omega)) h' ⟨?_, ha, hb, hc, hd⟩
        have hk' : k' ∈ (["plain", "stamp", "tag", "there"] : List Str) := hk'
        simp at hk'
        unfold TakeC
        rcases hk' with rfl | rfl | rfl | rfl <;> simp
      · have e234 := e23.trans e4
        replace h3 := dp_up (up_of e234) _ _ h3
        refine dsi_ret (ei_if (Pa := fun d' => ∃ o, d' = Stp.d o ∧ StpOk t o) si_ok (dt_cmp (de_v 2 (dp_up (up_of e234) _ _ h2)) de_int cm_eqi) (fun _ => ((ei_de si_ok (de_tup (xa_d de_str (xa_d (de_ixL F (de_v 3 h3) de_int) xa_nil)))).mono fun d' q => ⟨.forget a, q, ha⟩).post (I1 := MOk K m (b + 1)) fun H h => h.le (by omega)) (fun _ => (ei_tup si_ok (ea_cons (ei_de si_ok de_str) (ea_cons (ei_of T 0 (b + 1) F rfl (de_lst (K := K) (xa_d de_str (xa_d de_str (xa_d de_str xa_nil)))) (by simp [unD]) (by simp [unD])) ea_nil)) (fun ds h => by
          obtain ⟨_, _, rfl, _, _, _, rfl, _, rfl⟩ := h
          show 2 ≤ _
          omega)).mono fun d' q => by
          obtain ⟨_, rfl, _, _, rfl, rfl, _, _, rfl, hk, rfl⟩ := q
          rename_i x
          have hk : x ∈ ([.str "yes", .str "no", .str "open"] : List PyData) := hk
          simp at hk
          rcases hk with rfl | rfl | rfl
          · exact ⟨.fin "yes", rfl, .inl rfl⟩
          · exact ⟨.fin "no", rfl, .inr (.inl rfl)⟩
          · exact ⟨.fin "open", rfl, .inr (.inr rfl)⟩)) (si_ok _ _ e234 i1) fun v d' H' u i' h' hd' => ?_
        obtain ⟨o, rfl, ho⟩ := hd'
        exact hq v o H' ((e1.trans (up_of e234)).trans u) (i'.le (by omega)) h' ho
end
end PK
namespace PK
open L2 PySem PySem.Spec PyProof.Rows
section
variable {ι : Type} {Y : ι → Cx} {P : Program} {w : World} {K : PySem.W.Frag} {mg : Str → Option Value} {base : Heap} {k k' : Nat} {σ : L2.St} {H H' : Hp} {a b c e elt src tg : Expr} {es : List Expr} {pos p0 p2 tp mp : Pos} {I I1 I2 I' : Hp → Prop} {Pl : List PyData → Prop}
theorem TI'.tru {Pz : Bool → Prop} (h : TI' Y σ H I I' e Pz) : TI' Y σ H I I' e (fun _ => True) := by
  obtain ⟨t, ht, h⟩ := h
  exact ⟨t, ht, fun H2 e2 i2 Q q => h H2 e2 i2 Q fun z H3 e3 i3 _ => q z H3 e3 i3 trivial⟩
/-- tuple(a list) -/
theorem ei_tupleOf (F : Fm P w K mg base k Y) (g : mg "tuple" = none) (hI : SI I') (ha : EI Y K σ H I I' a (fun d => ∃ ds, d = .list ds ∧ Pl ds)) (hg : ∀ i, Gl (Y i) "tuple" := by intro _; rfl)
    (he : ∀ i, starEach [a] (Y i).env = (false, eval a (Y i).env) :: starEach [] (Y i).env := by intro _; rfl) : EI Y K σ H I I' (.Call (.Name "tuple" p0) [a] [] pos) (fun d => ∃ ds, d = .tuple ds ∧ Pl ds) := by
  obtain ⟨t1, h1, q1⟩ := ha
  refine ⟨tThen t1 (kTup K), fun i => by
    have q := pe_tupleOf (p := p0) (pos := pos) (hg i) (by rw [F.hmg i]; exact g) (h1 i) (he i)
    rw [F.hK i] at q
    exact q, fun H1 e1 i1 Q q => q1 H1 e1 i1 _ fun v d H2 e2 i2 hv hd => ?_⟩
  obtain ⟨ds, rfl, hp⟩ := hd
  cases hv with
  | lst ht hx => exact .inl ⟨_, _, rfl, ht, fun z hz => q _ _ _ (e2.trans (up_of (same_new hz))) (hI _ _ (same_new hz) i2) (.tup (SqT.of upd_same) (dpa_up (up_of (same_new hz)) _ _ hx)) ⟨ds, rfl, hp⟩⟩
end
def subO : Nat → List (List Str)
  | 0 => [[]]
  | i + 1 => subO i ++ (subO i).map (· ++ [allW.getD i ""])
theorem subO_ok {zs : List Str} (h : zs ∈ subO 3) : OthOk zs := by
  have h : zs ∈ ([[], ["great"], ["small"], ["great", "small"], ["take"], ["great", "take"], ["small", "take"], ["great", "small", "take"]] : List (List Str)) := h
  unfold OthOk
  simp at h
  rcases h with h | h | h | h | h | h | h | h <;> simp [h]
def spOth (K : PySem.W.Frag) : Sp := fun vs H Q _ => ∃ (m : Md) (b : Nat), vs = [.ref m.p] ∧ MOk K m (b + 3) H ∧ ∀ v' ot H', Up H H' → MOk K m b H' → Dp K H' v' (.tuple (ot.map .str)) → OthOk ot → Q v' H'
section
variable {P : Program} {w : World} {K : PySem.W.Frag} {mg : Str → Option Value} {base : Heap} (T : Txt w K mg)
include T
theorem f_law_any_others : FnC P w K mg base 2 "_law_any_others" (spOth K) := by
  refine fnC_of (N := ["_law_m", "_law_act"]) (ps := ["_law_m"]) (h_law_any_others T) (m_law_any_others T) ⟨rfl, rfl, rfl, by decide +kernel, rfl, by decide +kernel, by decide +kernel⟩ (fun _ _ _ _ _ _ us hl => match us, hl with | [_], _ => rfl) (fun vs H Q E h => by
    obtain ⟨_, _, rfl, _⟩ := h
    rfl) fun cdv A outer s_ H vs Q E F h => ?_
  obtain ⟨m, b, rfl, hm, hq⟩ := h
  show DSs _ _ [some (.ref m.p), _] _ _
  refine dsi_ret (ei_tupleOf F (n_tuple T) si_ok (EF.ei (EL.ef <| el_lc (own := [("_law_act", 1)]) (js := [1]) (n := 3) (fs := fun i => [(allW.map PyData.str).getD i .none]) [_] (fun i => MOk K m (b + (3 - i))) (fun i => MOk K m (b + (3 - (i + 1)))) (fun i rs => ∃ zs, rs = zs.map PyData.str ∧ zs ∈ subO i) (fun i r => r = .str (allW.getD i "")) F (se_tup F (de_tup (xa_d de_str (xa_d de_str (xa_d de_str xa_nil))))) (tb_name 1 (F.blk _)) rfl (fun i hi => rfl) (by decide) (by intro _; show BlkOk ["_law_m", "_law_act"] (defScope s_law_any_others) _ _; exact ⟨rfl, by decide +kernel, by decide +kernel, by decide +kernel, by decide +kernel⟩) (.inr ⟨_, rfl⟩) (fun i => si_ok) (fun i => li_ok) ⟨[], rfl, by simp [subO]⟩ (fun i r h => by
      subst h
      rfl) (fun i rs r h hr => by
      obtain ⟨zs, rfl, hz⟩ := h
      subst hr
      refine ⟨zs ++ [allW.getD i ""], by simp, ?_⟩
      show _ ∈ subO i ++ _
      exact List.mem_append_right _ (List.mem_map_of_mem (f := (· ++ [allW.getD i ""])) hz)) (fun i vs H1 u hi hl hd => by
      obtain ⟨v1_, rfl, h1⟩ := dpa1 hd
      refine .inr ⟨_, MOk K m (b + (3 - (i + 1))), fun _ => True, rfl, ?_, fun _ _ h => h, fun _ => ⟨fun _ h => h, fun rs h => ?_⟩⟩
      · have e : b + (3 - i) = b + (3 - (i + 1)) + 1 := by
          have : i < 3 := hi
          omega
        rw [e]
        exact TI'.tru (ti_gt (ei_draw T 0 (b + (3 - (i + 1))) (F.blk _) rfl de_int (by decide) (by decide)) (ei_int si_ok de_int (A := (· = 0)) rfl))
      · obtain ⟨zs, rfl, hz⟩ := h
        exact ⟨zs, rfl, List.mem_append_left _ hz⟩) (fun i vs H1 u hi hl hd => by
      obtain ⟨v1_, rfl, h1⟩ := dpa1 hd
      have e1 : (allW.map PyData.str).getD i .none = .str (allW.getD i "") := by
        have : i < 3 := hi
        match i, this with
        | 0, _ => rfl
        | 1, _ => rfl
        | 2, _ => rfl
      rw [e1] at h1
      exact ei_de si_ok (de_v 1 h1))))) hm fun v d H' u i' h' hd' => ?_
  obtain ⟨ds, rfl, zs, rfl, hz⟩ := hd'
  exact hq v zs H' u (i'.le (by omega)) h' (subO_ok hz)
end
end PK
namespace PK
open L2 PySem PySem.Spec PyProof.Rows
/-- the steps of a drawn script of up to 8 -/
def spAnySteps (K : PySem.W.Frag) : Sp := fun vs H Q _ => ∃ (m : Md) (v : V) (b : Nat), vs = [.ref m.p, v] ∧ Dp K H v (.int 8) ∧ MOk K m (b + 100) H ∧ ∀ v' (os : List Stp) H', Up H H' → MOk K m b H' → Dp K H' v' (.tuple (os.map Stp.d)) → 1 ≤ os.length → os.length ≤ 8 → (∀ o ∈ os, StpOk os.length o) → Q v' H'
theorem stps_of {t : Int} : ∀ (rs : List PyData), (∀ d ∈ rs, ∃ o, d = Stp.d o ∧ StpOk t o) → ∃ os : List Stp, rs = os.map Stp.d ∧ ∀ o ∈ os, StpOk t o
  | [], _ => ⟨[], rfl, fun o h => by cases h⟩
  | r :: rs, h => by
    obtain ⟨o, rfl, ho⟩ := h r (List.mem_cons_self ..)
    obtain ⟨os, rfl, hos⟩ := stps_of rs fun d hd => h d (List.mem_cons_of_mem _ hd)
    refine ⟨o :: os, rfl, fun x hx => ?_⟩
    cases hx with
    | head => exact ho
    | tail _ hx => exact hos x hx
section
variable {ι : Type} {Y : ι → Cx} {P : Program} {w : World} {K : PySem.W.Frag} {mg : Str → Option Value} {base : Heap} {k : Nat} {σ : L2.St} {H : Hp} {e : Expr} {pos p0 mp : Pos} {xm : Str} {m : Md}
theorem ei_anyStep (T : Txt w K mg) {t : Int} (j : Nat) (b : Nat) (F : Fm P w K mg base k Y) (hj : σ[j]? = some (some (.ref m.p))) (h : DE Y K σ H e (.int t)) (h1 : 1 ≤ t) (h2 : t < 1000) (hk : 3 ≤ k := by decide) (hg : ∀ i, Gl (Y i) "_law_any_step" := by intro _; rfl)
    (hN : ∀ i, (Y i).N[j]? = some xm := by intro _; rfl) (hv : ∀ i, Vis (Y i).env.scope xm := by intro _; first | exact Or.inl rfl | exact Or.inr (Or.inl rfl) | exact Or.inr (Or.inr rfl)) (hd : (xm == ("__debug__" : Str)) = false := by decide) (hcd : (xm == ("__classdict__" : Str)) = false := by decide)
    (he : ∀ i, starEach [.Name xm mp, e] (Y i).env = (false, eval (.Name xm mp) (Y i).env) :: starEach [e] (Y i).env := by intro _; rfl) (he2 : ∀ i, starEach [e] (Y i).env = (false, eval e (Y i).env) :: starEach [] (Y i).env := by intro _; rfl) (hpl : ∀ i, (backTo pos (starEach [e] (Y i).env)).any (·.1) = false := by intro _; rfl) :
    EI Y K σ H (MOk K m (b + 8)) (MOk K m b) (.Call (.Name "_law_any_step" p0) [.Name xm mp, e] [] pos) (fun d => ∃ o, d = Stp.d o ∧ StpOk t o) := by
  refine ei_call j F (f_law_any_step T) hj (xa_d h xa_nil he2) si_ok (fun vs H1 u i1 hv Q q => ?_) hk hg hN hv hd hcd (by decide) he hpl
  obtain ⟨v, rfl, hv1⟩ := vxs1 hv
  exact ⟨m, v, t, b, rfl, hv1, h1, h2, i1, fun v' o H' u' i' h' ho => q v' _ H' u' i' h' ⟨o, rfl, ho⟩⟩
end
section
variable {P : Program} {w : World} {K : PySem.W.Frag} {mg : Str → Option Value} {base : Heap} (T : Txt w K mg)
include T
theorem f_law_any_steps : FnC P w K mg base 4 "_law_any_steps" (spAnySteps K) := by
  refine fnC_of (N := ["_law_m", "_law_most", "_law_total", "_law_found", "_law_k"]) (ps := ["_law_m", "_law_most"]) (h_law_any_steps T) (m_law_any_steps T) ⟨rfl, rfl, rfl, by decide +kernel, rfl, by decide +kernel, by decide +kernel⟩ (fun _ _ _ _ _ _ us hl => match us, hl with | [_, _], _ => rfl) (fun vs H Q E h => by
    obtain ⟨_, _, _, rfl, _⟩ := h
    rfl) fun cdv A outer s_ H vs Q E F h => ?_
  obtain ⟨m, v1_, b, rfl, h1, hm, hq⟩ := h
  show DSs _ _ [some (.ref m.p), some v1_, _, _, _] _ _
  refine dsi_set 2 (ei_add (C' := fun i => 1 ≤ i ∧ i ≤ 8) (ei_int si_ok de_int (A := (· = 1)) rfl) (ei_draw T 0 (b + 99) F rfl (de_v 1 h1) (by decide) (by decide)) fun i j a hj => by subst a; obtain ⟨q1, q2⟩ := hj; exact ⟨by omega, by omega⟩) hm (fun v2_ d2 H1 e1 i1 h2 hd2 => ?_) F
  obtain ⟨t, rfl, ht1, ht8⟩ := hd2
  show DSs _ _ [some (.ref m.p), some v1_, some v2_, _, _] _ _
  refine dsi_lc (I := MOk K m (b + 20 + 8 * (t.toNat - 0))) 3 (el_lc (own := [("_law_k", 4)]) (js := [4]) (n := t.toNat) (fs := fun i => [.int (i : Nat)]) [] (fun i => MOk K m (b + 20 + 8 * (t.toNat - i))) (fun i => MOk K m (b + 20 + 8 * (t.toNat - i))) (fun i rs => rs.length = i ∧ ∀ d ∈ rs, ∃ o, d = Stp.d o ∧ StpOk t o) (fun _ d => ∃ o, d = Stp.d o ∧ StpOk t o) F (se_range F (n_range T) (de_v 2 h2) (by omega) (by omega)) (tb_name 4 (F.blk _)) rfl (fun i hi => rfl) (by omega) (by intro _; show BlkOk ["_law_m", "_law_most", "_law_total", "_law_found", "_law_k"] (defScope s_law_any_steps) _ _; exact ⟨rfl, by decide +kernel, by decide +kernel, by decide +kernel, by decide +kernel⟩) (.inl rfl) (fun i => si_ok) (fun i => li_ok) ⟨rfl, fun d h => by cases h⟩ (fun i r h => by
      obtain ⟨o, rfl, _⟩ := h
      exact stp_noL o) (fun i rs r h hr => ⟨by rw [List.length_append, h.1] <;> rfl, fun d hd => by
      rcases List.mem_append.mp hd with hd | hd
      · exact h.2 d hd
      · rw [List.mem_singleton.mp hd]
        exact hr⟩) (fun i vs H1 u hi hl hd => .inl ⟨rfl, fun _ h => h⟩) (fun i vs H1 u hi hl hd => by
      obtain ⟨v4_, rfl, h4⟩ := dpa1 hd
      have e : b + 20 + 8 * (t.toNat - i) = b + 20 + 8 * (t.toNat - (i + 1)) + 8 := by omega
      rw [e]
      exact ei_anyStep T 0 _ (F.blk _) rfl (de_v 2 (dp_up u _ _ h2)) (by omega) (by omega))) (i1.le (by omega)) (fun v3_ rs H2 e2 i2 h3 hrs hfr => ?_)
  obtain ⟨hrl, hrs⟩ := hrs
  obtain ⟨os, rfl, hos⟩ := stps_of rs hrs
  rw [List.length_map] at hrl
  replace i2 : MOk K m (b + 20) H2 := i2.le (by omega)
  have hfl := h3
  obtain ⟨p3, xs3, rfl, _, _⟩ := h3
  have hfr3 := hfr p3 rfl
  show DSs _ _ [some (.ref m.p), some v1_, some v2_, some (.ref p3), _] _ _
  have htt : (os.length : Int) = t := by omega
  refine dsi_if (ti_gt (ei_draw T 0 (b + 19) F rfl de_int (by decide) (by decide)) (ei_int si_ok de_int (A := (· = 0)) rfl)) i2 (fun _ H3 e3 i3 => ?_) (fun _ H3 e3 i3 => ?_)
  · refine dsi_last (H0 := H1) (Pa := fun d => ∃ o, d = Stp.d o ∧ StpOk t o) (I' := MOk K m (b + 18)) 3 F rfl ((ei_tup si_ok (ea_cons (ei_de si_ok de_str) (ea_cons (ei_of T 0 (b + 18) F rfl (de_lst (K := K) (xa_d de_str (xa_d de_str (xa_d de_str xa_nil)))) (by simp [unD]) (by simp [unD])) ea_nil)) (fun ds h => by
      obtain ⟨_, _, rfl, _, _, _, rfl, _, rfl⟩ := h
      show 2 ≤ _
      omega)).mono fun d' q => by
      obtain ⟨_, rfl, _, _, rfl, rfl, _, _, rfl, hk, rfl⟩ := q
      rename_i x
      have hk : x ∈ ([.str "yes", .str "no", .str "open"] : List PyData) := hk
      simp at hk
      rcases hk with rfl | rfl | rfl
      · exact ⟨.fin "yes", rfl, .inl rfl⟩
      · exact ⟨.fin "no", rfl, .inr (.inl rfl)⟩
      · exact ⟨.fin "open", rfl, .inr (.inr rfl)⟩) i3 (hfl.up e3) (by
        intro z
        have := congrArg List.length z
        rw [List.length_map] at this
        have h0 : ([] : List PyData).length = 0 := rfl
        omega) (stps_noL os) (fun d h => by
        obtain ⟨o, rfl, _⟩ := h
        exact stp_noL o) hfr3 (e2.trans e3) (fun H4 xs ys u h hx => MOk.lst i1 hfr3 u h hx) fun d H4 e4 i4 hd4 h4 => ?_
    obtain ⟨o, rfl, ho⟩ := hd4
    refine ds_nil ?_
    show DSs _ _ _ _ _
    refine dsi_ret ((ei_de si_ok (de_tupleOf F (n_tuple T) (de_fl (fl_v 3 h4)) (.inr rfl)))) i4 fun v d H' u i' h' hd' => ?_
    subst hd'
    rw [List.length_map, ← List.map_set] at h'
    refine hq v (os.set (os.length - 1) o) H' ((e1.trans e4).trans u) (i'.le (by omega)) h' (by rw [List.length_set]; omega) (by rw [List.length_set]; omega) fun x hx => ?_
    rw [List.length_set, htt]
    rcases List.mem_or_eq_of_mem_set hx with hx | rfl
    · exact hos x hx
    · exact ho
  · refine dsi_ret ((ei_de si_ok (de_tupleOf F (n_tuple T) (de_fl (fl_v 3 (hfl.up e3))) (.inr rfl)))) i3 fun v d H' u i' h' hd' => ?_
    subst hd'
    exact hq v os H' (((e1.trans e2).trans e3).trans u) (i'.le (by omega)) h' (by omega) (by omega) (by rw [htt]; exact hos)
end
end PK
namespace PK
open L2 PySem PySem.Spec PyProof.Rows
/-- a drawn state -/
def spAnyState (K : PySem.W.Frag) : Sp := fun vs H Q _ => ∃ (m : Md) (v : V) (os : List Stp) (b : Nat), vs = [.ref m.p, v] ∧ Dp K H v (.tuple (os.map Stp.d)) ∧ 1 ≤ os.length ∧ os.length ≤ 8 ∧ (∀ o ∈ os, ConOk o) ∧ MOk K m (b + 20) H ∧
  ∀ v' (s : StD) H', Up H H' → MOk K m b H' → Dp K H' v' s.d → StaOk (os.map Stp.d) s → Q v' H'
theorem st_ok {s : Str} (hs : SrvOk s) {d : PyData} (h : d ∈ PyData.tuple [] :: (stL s).map cpD) : ∃ c, d = cpD c ∧ CpOk s c := by
  rcases hs with rfl | rfl | rfl | rfl
  · have h : d ∈ ([cpD none, cpD (some (1, 1, 1, 1)), cpD (some (0, 1, 1, 1)), cpD (some (0, 1, 0, 0)), cpD (some (0, 0, 1, 1)), cpD (some (0, 0, 0, 0))] : List PyData) := h
    simp only [List.mem_cons, List.not_mem_nil, or_false] at h
    rcases h with rfl | rfl | rfl | rfl | rfl | rfl
    · exact ⟨none, rfl, trivial⟩
    · exact ⟨_, rfl, .inl ⟨rfl, by simp⟩⟩
    · exact ⟨_, rfl, .inl ⟨rfl, by simp⟩⟩
    · exact ⟨_, rfl, .inl ⟨rfl, by simp⟩⟩
    · exact ⟨_, rfl, .inl ⟨rfl, by simp⟩⟩
    · exact ⟨_, rfl, .inl ⟨rfl, by simp⟩⟩
  · have h : d ∈ ([cpD none, cpD (some (0, 0, 0, 0)), cpD (some (0, 0, 0, 1))] : List PyData) := h
    simp only [List.mem_cons, List.not_mem_nil, or_false] at h
    rcases h with rfl | rfl | rfl
    · exact ⟨none, rfl, trivial⟩
    · exact ⟨_, rfl, .inr (.inl ⟨rfl, by simp⟩)⟩
    · exact ⟨_, rfl, .inr (.inl ⟨rfl, by simp⟩)⟩
  · have h : d ∈ ([cpD none] : List PyData) := h
    simp only [List.mem_cons, List.not_mem_nil, or_false] at h
    subst h
    · exact ⟨none, rfl, trivial⟩
  · have h : d ∈ ([cpD none, cpD (some (1, 1, 1, 0)), cpD (some (0, 1, 1, 0)), cpD (some (0, 1, 0, 0)), cpD (some (0, 0, 1, 0)), cpD (some (0, 0, 0, 0))] : List PyData) := h
    simp only [List.mem_cons, List.not_mem_nil, or_false] at h
    rcases h with rfl | rfl | rfl | rfl | rfl | rfl
    · exact ⟨none, rfl, trivial⟩
    · exact ⟨_, rfl, .inr (.inr ⟨rfl, by simp⟩)⟩
    · exact ⟨_, rfl, .inr (.inr ⟨rfl, by simp⟩)⟩
    · exact ⟨_, rfl, .inr (.inr ⟨rfl, by simp⟩)⟩
    · exact ⟨_, rfl, .inr (.inr ⟨rfl, by simp⟩)⟩
    · exact ⟨_, rfl, .inr (.inr ⟨rfl, by simp⟩)⟩
theorem ti_dt {ι : Type} {Y : ι → Cx} {σ : L2.St} {H : Hp} {I : Hp → Prop} {c : Expr} {b1 : Bool} (hI : SI I) (h : DT Y σ H c b1) : TI' Y σ H I I c (· = b1) := by
  obtain ⟨t, ht, h⟩ := h
  exact ⟨t, ht, fun H1 e1 i1 Q q => h H1 e1 Q fun H2 e2 => q b1 H2 (up_of e2) (hI _ _ e2 i1) rfl⟩
theorem ei_with {ι : Type} {Y : ι → Cx} {K : PySem.W.Frag} {σ : L2.St} {H : Hp} {I I' : Hp → Prop} {e : Expr} {Pa : PyData → Prop} {p : Prop} (h : EI Y K σ H I I' e Pa) : EI Y K σ H (fun H => I H ∧ p) I' e (fun d => Pa d ∧ p) := by
  obtain ⟨t, ht, h⟩ := h
  exact ⟨t, ht, fun H1 e1 i1 Q q => h H1 e1 i1.1 Q fun v d H2 e2 i2 h2 h3 => q v d H2 e2 i2 h2 ⟨h3, i1.2⟩⟩
theorem ti_and {ι : Type} {Y : ι → Cx} {σ : L2.St} {H : Hp} {I I' : Hp → Prop} {a c : Expr} {pos : Pos} {b1 : Bool} {Pz : Bool → Prop} (hI : SI I) (hII : ∀ H, I H → I' H) (ha : DT Y σ H a b1) (hc : b1 = true → TI' Y σ H I I' c Pz) : TI' Y σ H I I' (.BoolOp .And [a, c] pos) (fun z => z = true → b1 = true) := by
  obtain ⟨t1, h1, q1⟩ := ha
  cases b1 with
  | true =>
    obtain ⟨t2, h2, q2⟩ := hc rfl
    exact ⟨_, fun i => (pw_and (h1 i) (pw_and1 (h2 i))).pt, fun H1 e1 i1 Q q => q1 H1 e1 _ fun H2 e2 => iteT (q2 H2 (e1.trans (up_of e2)) (hI _ _ e2 i1) Q fun z H3 e3 i3 _ => q z H3 ((up_of e2).trans e3) i3 fun _ => rfl)⟩
  | false => exact ⟨_, fun i => (pw_and (h1 i) pw_no).pt, fun H1 e1 i1 Q q => q1 H1 e1 _ fun H2 e2 => iteF (q false H2 (up_of e2) (hII _ (hI _ _ e2 i1)) fun z => z)⟩
theorem canLay_ints : ∀ (rs : List PyData), (∀ d ∈ rs, ∃ i, d = .int i) → PyData.canLayAll0 rs = true ∧ PyData.depthAll rs = 0
  | [], _ => ⟨rfl, rfl⟩
  | r :: rs, h => by
    obtain ⟨i, rfl⟩ := h r (List.mem_cons_self ..)
    obtain ⟨h1, h2⟩ := canLay_ints rs fun d hd => h d (List.mem_cons_of_mem _ hd)
    refine ⟨?_, ?_⟩
    · unfold PyData.canLayAll0
      rw [h1] <;> rfl
    · unfold PyData.depthAll
      rw [h2] <;> rfl
theorem shaped_ints {rs : List PyData} (h : ∀ d ∈ rs, ∃ i, d = .int i) : SeqAt.shaped (.list rs) = true := by
  obtain ⟨h1, h2⟩ := canLay_ints rs h
  unfold SeqAt.shaped PyData.canLay0 PyData.depth
  rw [h1, h2] <;> rfl
theorem bit_of {i : Int} (h : inR 2 i) : BitOk i := by
  obtain ⟨h1, h2⟩ := h
  unfold BitOk
  omega
/-- what is known of the steps that write -/
def WrAt (os : List Stp) : PyData → Prop := isI fun i => ∃ o, At (os.map Stp.d) i o ∧ isWr o = true ∧ NxOk (os.map Stp.d).length i
section
variable {P : Program} {w : World} {K : PySem.W.Frag} {mg : Str → Option Value} {base : Heap} (T : Txt w K mg)
include T
theorem f_law_any_state : FnC P w K mg base 4 "_law_any_state" (spAnyState K) := by
  refine fnC_of (N := ["_law_m", "_law_steps", "_law_server", "_law_writings", "_law_found", "_law_some", "_law_late", "_law_k", "_law_one"]) (ps := ["_law_m", "_law_steps"]) (h_law_any_state T) (m_law_any_state T) ⟨rfl, rfl, rfl, by decide +kernel, rfl, by decide +kernel, by decide +kernel⟩ (fun _ _ _ _ _ _ us hl => match us, hl with | [_, _], _ => rfl) (fun vs H Q E h => by
    obtain ⟨_, _, _, _, rfl, _⟩ := h
    rfl) fun cdv A outer s_ H vs Q E F h => ?_
  obtain ⟨m, v1_, os, b, rfl, h1, hl1, hl8, hok, hm, hq⟩ := h
  show DSs _ _ [some (.ref m.p), some v1_, _, _, _, _, _, _, _] _ _
  refine dsi_set 2 (ei_of T 0 (b + 19) F rfl (de_lst (K := K) (xa_d de_str (xa_d de_str (xa_d de_str (xa_d de_str xa_nil))))) (by simp [unD]) (by simp [unD])) hm (fun v2_ d2 H1 e1 i1 h2 hd2 => ?_) F
  have hs : ∃ srv, d2 = .str srv ∧ SrvOk srv := by
    have hd2 : d2 ∈ ([.str "fresh", .str "gone", .str "never", .str "there"] : List PyData) := hd2
    simp only [List.mem_cons, List.not_mem_nil, or_false] at hd2
    unfold SrvOk
    rcases hd2 with rfl | rfl | rfl | rfl
    · exact ⟨_, rfl, .inl rfl⟩
    · exact ⟨_, rfl, .inr (.inl rfl)⟩
    · exact ⟨_, rfl, .inr (.inr (.inl rfl))⟩
    · exact ⟨_, rfl, .inr (.inr (.inr rfl))⟩
  obtain ⟨srv, rfl, hs⟩ := hs
  replace h1 := dp_up e1 _ _ h1
  show DSs _ _ [some (.ref m.p), some v1_, some v2_, _, _, _, _, _, _] _ _
  have hz : Nat.ble (([PyData.tuple []] : List PyData).length + ((stL srv).map cpD).length) 16777216 = true := by
    rcases hs with rfl | rfl | rfl | rfl <;> rfl
  refine dsi_par (jx := 5) (jy := 6) F (ei_de si_ok (de_fl (fl_cat F (ds1 := [PyData.tuple []]) (de_lst (K := K) (xa_d (de_tup xa_nil) xa_nil)) (de_f F (f_law_standings_at T) (xa_d (de_v 2 h2) xa_nil) ⟨_, rfl, hs, rfl⟩) hz))) (ei_de si_ok (de_tup xa_nil)) i1 fun v5_ v6_ d5 d6 H2 e2 i2 h5 hd5 h6 hd6 => ?_
  subst hd5 hd6
  replace h1 := dp_up e2 _ _ h1
  replace h2 := dp_up e2 _ _ h2
  show DSs _ _ [some (.ref m.p), some v1_, some v2_, _, _, some v5_, some v6_, _, _] _ _
  refine dsi_lc (I := MOk K m (b + 19)) 3 (el_lc (own := [("_law_k", 7), ("_law_one", 8)]) (js := [7, 8]) (n := (os.map Stp.d).length) (fs := fun i => [.int (i : Nat), (os.map Stp.d).getD i .none]) [_] (fun _ => MOk K m (b + 19)) (fun i H => MOk K m (b + 19) H ∧ ∀ o, os[i]? = some o → isWr o = true) (fun i rs => rs.length ≤ i ∧ ∀ d ∈ rs, WrAt os d) (fun _ => WrAt os) F (se_enumT F (n_enumerate T) (de_v 1 h1)) (tb_tup (F.blk _) (gn_cons (F.blk _) 7 (gn_cons (F.blk _) 8 gn_nil))) rfl (fun i hi => ⟨rfl, rfl⟩) (by rw [List.length_map]; omega) (by intro _; show BlkOk ["_law_m", "_law_steps", "_law_server", "_law_writings", "_law_found", "_law_some", "_law_late", "_law_k", "_law_one"] (defScope s_law_any_state) _ _; exact ⟨rfl, by decide +kernel, by decide +kernel, by decide +kernel, by decide +kernel⟩) (.inr ⟨_, rfl⟩) (fun i => si_ok) (fun i => li_ok) ⟨Nat.le_refl _, fun d h => by cases h⟩ (fun i r h => by
      obtain ⟨n, rfl, _⟩ := h
      rfl) (fun i rs r h hr => ⟨by rw [List.length_append]; exact Nat.add_le_add_right h.1 1, fun d hd => by
      rcases List.mem_append.mp hd with hd | hd
      · exact h.2 d hd
      · rw [List.mem_singleton.mp hd]
        exact hr⟩) (fun i vs H1 u hi hl hd => by
      obtain ⟨v7_, v8_, rfl, h7, h8⟩ := dpa2 hd
      have hi' : i < os.length := by rwa [List.length_map] at hi
      have e8 : (os.map Stp.d).getD i .none = os[i].d := by simp [List.getD_eq_getElem?_getD, hi']
      rw [e8] at h8
      refine .inr ⟨_, MOk K m (b + 19), (· = isWr os[i]), rfl, ti_dt si_ok ?_, fun hz H h => ⟨h, fun o ho => ?_⟩, fun _ => ⟨fun H h => h, fun rs h => ⟨Nat.le_succ_of_le h.1, h.2⟩⟩⟩
      · generalize os[i] = o at h8
        rcases o with ⟨k, a, a1, a2, a3, a4⟩ | ⟨k, z, a, a1, a2⟩ | ⟨k, a, a1, a2, a3⟩ | n | w_ <;> exact DT.is (dt_cmp (de_ixT (F.blk _) (de_v 8 h8) de_int) (de_tup (xa_d de_str (xa_d de_str xa_nil))) (cm_inS (F.blk _))) rfl
      · rw [List.getElem?_eq_getElem hi'] at ho
        cases ho
        exact hz.symm) (fun i vs H1 u hi hl hd => by
      obtain ⟨v7_, v8_, rfl, h7, h8⟩ := dpa2 hd
      have hi' : i < os.length := by rwa [List.length_map] at hi
      refine (ei_with (ei_de (I := MOk K m (b + 19)) si_ok (de_v 7 h7))).mono fun d hd => ?_
      obtain ⟨rfl, hw⟩ := hd
      refine ⟨(i : Nat), rfl, os[i], ⟨?_, hok _ (List.getElem_mem hi')⟩, hw _ (List.getElem?_eq_getElem hi'), by omega, by rw [List.length_map]; omega⟩
      unfold atI ixN
      rw [if_pos (by omega), if_pos (by rw [List.length_map]; omega)]
      simp [hi'])) i2 (fun v3_ rs H3 e3 i3 h3 hrs _ => ?_)
  obtain ⟨hrl, hrs⟩ := hrs
  rw [List.length_map] at hrl
  replace h1 := dp_up e3 _ _ h1
  replace h2 := dp_up e3 _ _ h2
  replace h5 := dp_up e3 _ _ h5
  replace h6 := dp_up e3 _ _ h6
  replace h3 := h3.dp
  show DSs _ _ [some (.ref m.p), some v1_, some v2_, some v3_, _, some v5_, some v6_, _, _] _ _
  have hsh : SeqAt.shaped (.list rs) = true := shaped_ints fun d hd => by
    obtain ⟨i, rfl, _⟩ := hrs d hd
    exact ⟨i, rfl⟩
  have hsl : ([PyData.tuple []] ++ (stL srv).map cpD : List PyData).length ≤ 1000 := by
    rcases hs with rfl | rfl | rfl | rfl <;> decide
  /- late, by the draws -/
  have tail : ∀ (v6_ : V) (lt : Lt) (H4 : Hp), Up H3 H4 → MOk K m (b + 15) H4 → Dp K H4 v6_ (ltD lt) → LtOk (os.map Stp.d) srv lt → DSs (bodyY P w K mg base ["_law_m", "_law_steps", "_law_server", "_law_writings", "_law_found", "_law_some", "_law_late", "_law_k", "_law_one"] "_law_any_state" (defScope s_law_any_state) (He.ga K "_law_any_state") cdv A outer s_ H E) { nx := fun _ H' => Q .non H', rt := Q } [some (.ref m.p), some v1_, some v2_, some v3_, none, some v5_, some v6_, none, none] H4 (defBody s_law_any_state |>.drop 4) := by
    intro v6_ lt H4 e4 i4 h6 hlt
    replace h1 := dp_up e4 _ _ h1
    replace h2 := dp_up e4 _ _ h2
    replace h5 := dp_up e4 _ _ h5
    refine dsi_set 4 (ei_tup si_ok (ea_cons (ei_de si_ok (de_v 2 h2)) (ea_cons (ei_draw T 0 (b + 14) F rfl (de_len F (n_len T) (de_v 1 h1) (.inl rfl)) (by rw [List.length_map]; omega) (by rw [List.length_map]; omega)) (ea_cons (ei_of T 0 (b + 13) F rfl (de_v 5 h5) (by simp) hsl) ea_nil))) (fun ds h => by
      obtain ⟨_, _, rfl, _, _, _, rfl, _, _, _, rfl, _, rfl⟩ := h
      show 3 ≤ _
      omega)) i4 (fun v4_ d4 H5 e5 i5 h4 hd4 => ?_) F
    obtain ⟨_, rfl, _, _, rfl, rfl, _, _, rfl, hnum, _, _, rfl, hcp, rfl⟩ := hd4
    obtain ⟨num, rfl, hnum⟩ := hnum
    obtain ⟨cp, rfl, hcpo⟩ := st_ok hs hcp
    replace h6 := dp_up e5 _ _ h6
    show DSs _ _ [some (.ref m.p), some v1_, some v2_, some v3_, some v4_, some v5_, some v6_, _, _] _ _
    refine dsi_ret (ei_catT F si_ok ((ei_de si_ok (de_v 4 h4)).mono (Pb := fun d' => ∃ ds, d' = .tuple ds ∧ ds = [.str srv, .int num, cpD cp]) fun d' q => ⟨_, q, rfl⟩) (ei_tup si_ok (ea_cons (ei_draw T 0 (b + 12) F rfl de_int (by decide) (by decide)) (ea_cons (ei_draw T 0 (b + 11) F rfl de_int (by decide) (by decide)) (ea_cons (ei_draw T 0 (b + 10) F rfl de_int (by decide) (by decide)) (ea_cons (ei_de si_ok (de_v 6 h6)) ea_nil)))) (fun ds h => by
      obtain ⟨_, _, rfl, _, _, _, rfl, _, _, _, rfl, _, _, _, rfl, _, rfl⟩ := h
      show 4 ≤ _
      omega)) (fun x y h1 h2 => by
      subst h1
      obtain ⟨_, _, rfl, _, _, _, rfl, _, _, _, rfl, _, _, _, rfl, _, rfl⟩ := h2
      show 7 ≤ _
      omega)) i5 fun v d' H' u i' h' hd' => ?_
    obtain ⟨x, y, rfl, rfl, _, _, rfl, ⟨kn, rfl, hkn⟩, _, _, rfl, ⟨ow, rfl, how⟩, _, _, rfl, ⟨dn, rfl, hdn⟩, _, _, rfl, rfl, rfl⟩ := hd'
    exact hq v ⟨srv, num, cp, kn, ow, dn, lt⟩ H' (((((e1.trans e2).trans e3).trans e4).trans e5).trans u) (i'.le (by omega)) h' ⟨hs, hnum, hcpo, bit_of hkn, bit_of how, hdn, hlt⟩
  refine dsi_if (ti_and (I' := MOk K m (b + 18)) si_ok (fun H h => h.le (by omega)) (dt_cmp (de_v 3 h3) (de_lst (K := K) xa_nil) (cm_neD F hsh rfl)) fun _ => ti_gt (ei_draw T 0 (b + 18) F rfl de_int (by decide) (by decide)) (ei_int si_ok de_int (A := (· = 0)) rfl)) i3 (fun hz H4 e4 i4 => ?_) (fun hz H4 e4 i4 => ?_)
  · have hne : rs ≠ [] := by
      rintro rfl
      exact absurd (hz rfl) (by decide)
    refine dsi_set 6 (ei_tup si_ok (ea_cons (ei_of T 0 (b + 17) F rfl (de_v 3 (dp_up e4 _ _ h3)) hne (by omega)) (ea_cons (ei_of T 0 (b + 16) F rfl (de_v 5 (dp_up e4 _ _ h5)) (by simp) hsl) (ea_cons (ei_draw T 0 (b + 15) F rfl de_int (by decide) (by decide)) ea_nil))) (fun ds h => by
      obtain ⟨_, _, rfl, _, _, _, rfl, _, _, _, rfl, _, rfl⟩ := h
      show 3 ≤ _
      omega)) i4 (fun v6_ d6 H5 e5 i5 h6 hd6 => ?_) F
    obtain ⟨_, rfl, _, _, rfl, hw, _, _, rfl, hcp, _, _, rfl, ⟨mm, rfl, hmm⟩, rfl⟩ := hd6
    obtain ⟨j, rfl, o, hat, hwr, hnx⟩ := hrs _ hw
    obtain ⟨c, rfl, hcpo⟩ := st_ok hs hcp
    refine ds_nil ?_
    exact tail v6_ (some (j, c, mm)) H5 (e4.trans e5) i5 h6 ⟨⟨o, hat, hwr⟩, hnx, hcpo, bit_of hmm⟩
  · exact tail v6_ none H4 e4 (i4.le (by omega)) (dp_up e4 _ _ h6) trivial
end
end PK
namespace PK
open L2 PySem PySem.Spec PyProof.Rows
def cutI (ns : List Int) (lo hi : Option Int) : List Int := (ns.drop (HT.sIx ns.length 0 lo)).take (HT.sIx ns.length ns.length hi - HT.sIx ns.length 0 lo)
theorem cutD_map (ns : List Int) (lo hi : Option Int) : cutD (ns.map PyData.int) lo hi = (cutI ns lo hi).map PyData.int := by
  unfold cutD cutI
  rw [List.length_map, ← List.map_drop, ← List.map_take]
theorem cutI_len (ns : List Int) (lo hi : Option Int) : (cutI ns lo hi).length ≤ ns.length := by
  unfold cutI
  rw [List.length_take, List.length_drop]
  omega
def firstI : List PyData → PyData
  | [] => .int 0
  | r :: _ => r
theorem firstI_int {rs : List PyData} (h : ∀ d ∈ rs, ∃ i, d = PyData.int i) : ∃ i, firstI rs = .int i := by
  cases rs with
  | nil => exact ⟨0, rfl⟩
  | cons r rs => exact h r (List.mem_cons_self ..)
theorem getD_int {cs : List Int} {i : Nat} (h : i < (cs.map PyData.int).length) : ∃ c, (cs.map PyData.int).getD i .none = .int c := by
  have h' : i < cs.length := by rwa [List.length_map] at h
  exact ⟨cs[i], by simp [List.getD_eq_getElem?_getD, h']⟩
section
variable {ι : Type} {Y : ι → Cx} {P : Program} {w : World} {K : PySem.W.Frag} {mg : Str → Option Value} {base : Heap} {k k' : Nat} {σ : L2.St} {H H' : Hp} {a b c e a1 a2 : Expr} {pos p0 p1 p2 p3 p4 p5 p6 : Pos} {i j : Int} {rs : List PyData} {x : Str}
theorem de_mul (ha : DE Y K σ H a (.int i)) (hb : DE Y K σ H b (.int j)) (hc : CMul i j) : DE Y K σ H (.BinOp a .Mult b pos) (.int (i * j)) := by
  obtain ⟨t1, h1, q1⟩ := ha
  obtain ⟨t2, h2, q2⟩ := hb
  refine ⟨_, fun i => pe_op op_mul (h1 i) (h2 i), fun H1 e1 Q q => q1 H1 e1 _ fun v H2 e2 hv => q2 H2 (e1.trans (up_of e2)) _ fun u H3 e3 hu => ?_⟩
  cases hv
  cases hu
  exact ⟨_, _, rfl, rfl, hc, q _ H3 (e2.trans e3) (.int _)⟩
theorem de_pow (ha : DE Y K σ H a (.int i)) (hb : DE Y K σ H b (.int j)) (hc : 0 ≤ j ∧ j ≤ 1000000 ∧ i.natAbs < 2 ^ 64) : DE Y K σ H (.BinOp a .Pow b pos) (.int (i ^ j.toNat)) := by
  obtain ⟨t1, h1, q1⟩ := ha
  obtain ⟨t2, h2, q2⟩ := hb
  refine ⟨_, fun i => pe_op op_pow (h1 i) (h2 i), fun H1 e1 Q q => q1 H1 e1 _ fun v H2 e2 hv => q2 H2 (e1.trans (up_of e2)) _ fun u H3 e3 hu => ?_⟩
  cases hv
  cases hu
  exact ⟨_, _, rfl, rfl, hc, q _ H3 (e2.trans e3) (.int _)⟩
theorem de_first {j1 j2 : Nat} (F : Fm P w K mg base k Y) (h1 : DE Y K σ H a1 (.list rs)) (h2 : DE Y K σ H a2 (.list rs)) (h : ∀ d ∈ rs, ∃ i, d = PyData.int i) : DE Y K σ H (.IfExp (.Compare a1 [.NotEq] [.List [] p1] p2) (.Subscript a2 (.Constant (.int 0) j1 p3) p4) (.Constant (.int 0) j2 p5) p6) (firstI rs) := by
  have hc : DT Y σ H (.Compare a1 [.NotEq] [.List [] p1] p2) (!PyData.eqv (.list rs) (.list [])) := dt_cmp h1 (de_lst (K := K) xa_nil) (cm_neD F (shaped_ints h) rfl)
  cases rs with
  | nil => exact DE.is (de_if (d1 := .int 0) hc (fun q => absurd q (by decide)) fun _ => de_int) rfl
  | cons r rs => exact DE.is (de_if hc (fun _ => de_ixL F h2 de_int (by
      unfold atI ixN
      rw [if_pos (by decide), if_pos (by simp)] <;> rfl)) fun _ => de_int) rfl
end
theorem si_tr : SI (fun _ => True) := fun _ _ _ _ => trivial
/-- the drawing state of a turn -/
def spBegun (K : PySem.W.Frag) : Sp := fun vs H Q _ => ∃ (v u : V) (ns : List Int) (k : Int), vs = [v, u] ∧ Dp K H v (.list (ns.map .int)) ∧ Dp K H u (.int k) ∧ 0 ≤ k ∧ k ≤ 7 ∧ ns.length ≤ 63 ∧ ∀ (m : Md) H', Up H H' → MOk K m 1000000 H' → Q (.ref m.p) H'
section
variable {P : Program} {w : World} {K : PySem.W.Frag} {mg : Str → Option Value} {base : Heap} (T : Txt w K mg)
include T
theorem f_law_begun : FnC P w K mg base 1 "_law_begun" (spBegun K) := by
  refine fnC_of (N := ["_law_script", "_law_k", "_law_cells", "_law_great", "_law_seed", "_law_cell"]) (ps := ["_law_script", "_law_k"]) (h_law_begun T) (m_law_begun T) ⟨rfl, rfl, rfl, by decide +kernel, rfl, by decide +kernel, by decide +kernel⟩ (fun _ _ _ _ _ _ us hl => match us, hl with | [_, _], _ => rfl) (fun vs H Q E h => by
    obtain ⟨_, _, _, _, rfl, _⟩ := h
    rfl) fun cdv A outer s_ H vs Q E F h => ?_
  obtain ⟨v0_, v1_, ns, k, rfl, h0, h1, hk0, hk7, hl, hq⟩ := h
  show DSs _ _ [some v0_, some v1_, _, _, _, _] _ _
  have hlen : (cutI ns (some k) none ++ cutI ns none (some k)).length ≤ 126 := by
    have := cutI_len ns (some k) none
    have := cutI_len ns none (some k)
    rw [List.length_append]
    omega
  refine ds_set (F := F) 2 (fl_cat F (ds1 := (cutI ns (some k) none).map .int) (ds2 := (cutI ns none (some k)).map .int) (DE.is (de_fl (fl_sl F (de_v 0 h0) (oe_some (de_v 1 h1)) oe_none)) (by rw [cutD_map])) (DE.is (de_fl (fl_sl F (de_v 0 h0) oe_none (oe_some (de_v 1 h1)))) (by rw [cutD_map])) (Nat.ble_eq.mpr (by
    rw [List.length_append] at hlen
    rw [List.length_map, List.length_map]
    omega))) fun v2_ H1 e1 h2 => ?_
  replace h2 := h2.dp
  rw [← List.map_append] at h2
  generalize cutI ns (some k) none ++ cutI ns none (some k) = cs at h2 hlen
  replace h1 := dp_up (up_of e1) _ _ h1
  show DSs _ _ [some v0_, some v1_, some v2_, _, _, _] _ _
  refine dsi_lc (I := fun _ => True) 3 (el_lc (own := [("_law_cell", 5)]) (js := [5]) (n := (cs.map PyData.int).length) (fs := fun i => [(cs.map PyData.int).getD i .none]) [_] (fun _ _ => True) (fun _ _ => True) (fun i rs => rs.length ≤ i ∧ ∀ d ∈ rs, ∃ i, d = PyData.int i) (fun _ d => ∃ i, d = PyData.int i) F (se_lst F (de_v 2 h2)) (tb_name 5 (F.blk _)) rfl (fun i hi => rfl) (by rw [List.length_map]; omega) (by intro _; show BlkOk ["_law_script", "_law_k", "_law_cells", "_law_great", "_law_seed", "_law_cell"] (defScope s_law_begun) _ _; exact ⟨rfl, by decide +kernel, by decide +kernel, by decide +kernel, by decide +kernel⟩) (.inr ⟨_, rfl⟩) (fun _ => si_tr) (fun _ _ _ _ _ _ _ _ _ _ _ => trivial) ⟨Nat.le_refl _, fun d h => by cases h⟩ (fun i r h => by
      obtain ⟨n, rfl⟩ := h
      rfl) (fun i rs r h hr => ⟨by rw [List.length_append]; exact Nat.add_le_add_right h.1 1, fun d hd => by
      rcases List.mem_append.mp hd with hd | hd
      · exact h.2 d hd
      · rw [List.mem_singleton.mp hd]
        exact hr⟩) (fun i vs H1 u hi hl hd => by
      obtain ⟨v5_, rfl, h5⟩ := dpa1 hd
      obtain ⟨c, ec⟩ := getD_int hi
      rw [ec] at h5
      exact .inr ⟨_, fun _ => True, fun _ => True, rfl, TI'.tru (ti_dt si_tr (dt_cmp (de_v 5 h5) (de_pow de_int de_int (by decide)) cm_ge)), fun _ _ _ => trivial, fun _ => ⟨fun _ _ => trivial, fun rs h => ⟨Nat.le_succ_of_le h.1, h.2⟩⟩⟩) (fun i vs H1 u hi hl hd => by
      obtain ⟨v5_, rfl, h5⟩ := dpa1 hd
      obtain ⟨c, ec⟩ := getD_int hi
      rw [ec] at h5
      exact (ei_de si_tr (de_v 5 h5)).mono fun d hd => ⟨c, hd⟩)) trivial (fun v3_ rs H2 e2 _ h3 hrs _ => ?_)
  replace h3 := h3.dp
  replace h1 := dp_up e2 _ _ h1
  replace h2 := dp_up e2 _ _ h2
  show DSs _ _ [some v0_, some v1_, some v2_, some v3_, _, _] _ _
  refine ds_set (F := F) 4 (de_add de_int (de_v 1 h1)) fun v4_ H3 e3 h4 => ?_
  replace h1 := dp_up (up_of e3) _ _ h1
  replace h2 := dp_up (up_of e3) _ _ h2
  replace h3 := dp_up (up_of e3) _ _ h3
  show DSs _ _ [some v0_, some v1_, some v2_, some v3_, some v4_, _] _ _
  refine ds_for F (se_lst F (de_v 2 h2)) (tb_name 5 F) (fs := fun i => [(cs.map PyData.int).getD i .none]) (fun i hi => rfl) fun Hl el => ?_
  replace h1 := dp_up (up_of el) _ _ h1
  replace h2 := dp_up (up_of el) _ _ h2
  replace h3 := dp_up (up_of el) _ _ h3
  replace h4 := dp_up (up_of el) _ _ h4
  refine ⟨fun i σ' H' => ∃ sd c n, Up Hl H' ∧ σ' = [some v0_, some v1_, some v2_, some v3_, some sd, c] ∧ Dp K H' sd (.int n) ∧ inR 2147483647 n, ⟨v4_, none, _, Up.refl _, rfl, h4, by omega, by omega⟩, fun i σ' H' h => by
    obtain ⟨_, _, _, h, _⟩ := h
    exact h, fun i σ' H' H'' vs hi h e2 hl hd => ?_, fun σ' H' h => ?_⟩
  · obtain ⟨sd, c, n, e4, rfl, h4, hn0, hn1⟩ := h
    obtain ⟨v5_, rfl, h5⟩ := dpa1 hd
    obtain ⟨ce, ec⟩ := getD_int hi
    rw [ec] at h5
    replace h4 := dp_up (up_of e2) _ _ h4
    show DSs _ _ [some v0_, some v1_, some v2_, some v3_, some sd, some v5_] _ _
    refine dsi_set (I := fun _ => True) 4 (ei_mod (C' := inR 2147483647) (ei_inti (A := fun _ => True) F (n_int T) (ei_add (ei_mul (C' := fun _ => True) (ei_int si_tr (de_v 4 h4) (A := (· = n)) rfl) (ei_int si_tr de_int (A := (· = 48271)) rfl) fun i j a b => by subst a b; exact ⟨.inl ⟨by omega, by omega⟩, trivial⟩) (ei_int si_tr (de_v 5 h5) (A := fun _ => True) trivial) fun _ _ _ _ => trivial)) (ei_int si_tr de_int (A := (· = 2147483647)) rfl) fun i j _ b => by subst b; exact ⟨by omega, inR_mod (by omega)⟩) trivial (fun v4' d4 H5 e5 _ h4' hd4 => ?_) F
    obtain ⟨n', rfl, hn'⟩ := hd4
    exact ds_nil ⟨v4', some v5_, n', (e4.trans (up_of e2)).trans e5, rfl, h4', hn'⟩
  · obtain ⟨v4', c5, n, e4, rfl, h4, hn0, hn1⟩ := h
    replace h1 := dp_up e4 _ _ h1
    replace h2 := dp_up e4 _ _ h2
    replace h3 := dp_up e4 _ _ h3
    show DSs _ _ [some v0_, some v1_, some v2_, some v3_, some v4', _] _ _
    refine ds_retR (er_disp (K := K) (pd_cons (de_first F (de_v 3 h3) (de_v 3 h3) hrs.2) (pd_cons (de_v 4 h4) (pd_cons (de_fl (fl_cat F (de_v 2 h2) (de_lst (K := K) (xa_d (de_add (de_mul de_int (de_v 1 h1) (.inl ⟨by decide, by decide⟩)) de_int) xa_nil)) (Nat.ble_eq.mpr (by
      rw [List.length_map]
      show _ + 1 ≤ _
      omega)))) (pd_cons de_int pd_nil))))) fun v H' e5 h => ?_
    obtain ⟨p, ws, rfl, hp, hw, _⟩ := h
    obtain ⟨l, efl⟩ := firstI_int hrs.2
    rw [efl] at hw
    cases hw with
    | cons w1 hw =>
      cases hw with
      | cons w2 hw =>
        cases hw with
        | cons w3 hw =>
          cases hw with
          | cons w4 hw =>
            cases hw
            cases w1
            cases w2
            cases w4
            rename_i cv
            have w3' : Dp K H' cv (.list ((cs ++ [31 * k + 5]).map .int)) := by
              rw [List.map_append]
              exact w3
            exact hq ⟨p, cv, cs ++ [31 * k + 5]⟩ H' ((((((up_of e1).trans e2).trans (up_of e3)).trans (up_of el)).trans e4).trans (up_of e5)) ⟨l, n, 0, ⟨hp, w3'⟩, by simp, by rw [List.length_append]; show _ + 1 ≤ _; omega, hn0, hn1, by omega, by omega⟩
end
end PK
namespace PK
open L2 PySem PySem.Spec PyProof.Rows
/-! ## repr of data -/
def rReprD (K : PySem.W.Frag) : List V → Hp → VK → Prop := fun xs H Q => ∃ v d, xs = [v] ∧ Dp K H v d ∧ (∃ ds, d = .list ds ∨ d = .tuple ds) ∧ SeqAt.shaped d = true ∧ d.showable = true ∧ d.shown.length ≤ sizeLine ∧ Q (.str d.shown) H
theorem cr_reprD {X : Cx} (hg : X.A.guards = some []) (hu : X.A.units + 65 < cLine) : CallR X (.builtin "repr") (rReprD X.K) := by
  intro pins s σ H xs us Q I r h
  obtain ⟨v, d, rfl, hd, ⟨ds, hc⟩, hsh, hs, hz, q⟩ := h
  cases r with
  | @cons _ u _ _ r1 rs =>
    cases rs
    obtain ⟨as, rd⟩ := Dp.reads I d _ _ hd r1
    have hdp := SeqAt.depth_of_shaped hsh
    have hsm := PyData.noDict_hsm (as := as) (PyData.hasDict_of_canLay d (SeqAt.canLay_of_shaped hsh))
    have fin : ∀ (a : Addr), Reads s.heap (.ref a) d as → wpAny (model X.prog X.w) X.A (call (.builtin "repr") [.ref a]) (fun u s' => ∃ v H', Inv X pins σ H' s' ∧ RelV v u ∧ Q v H') X.xe s := fun a rd =>
      repr_of_reads' rd hs hsm hg (by omega) (fun _ _ e => e) (fun h' u tk hk => ⟨.str d.shown, H, I.kept hk, ⟨_, rfl⟩, q⟩) hz
    rcases hc with rfl | rfl
    · cases rd with
      | list h1 h2 h3 h4 => exact fin _ (.list h1 h2 h3 h4)
    · cases rd with
      | tuple h1 h2 h3 h4 => exact fin _ (.tuple h1 h2 h3 h4)
/-! ### ints of many digits -/
theorem meets_int_reprN (a : Int) (t : Tok) (h : a.natAbs < 10 ^ 4300) : Meets (Builtin.«int.__repr__» ⟨[.int a t], []⟩) (fun _ R s => s.heap.NoDigits ∧ R (.ok (.ret (.str (toString a) s.toks))) { s with toks := s.toks + 1 }) :=
  .of_wp fun prog w A R s hh => by
    obtain ⟨hn, hR⟩ := hh
    unfold Builtin.«int.__repr__»
    show wpAny _ _ (do
      let r ← Builtin.overDigitLimit? a
      _) _ _ s
    refine wpAny_bind (overDigitLimit_any hn (fun _ => ?_) fun hge => absurd h (Nat.not_lt.mpr hge))
    exact wpAny_bind (wpAny_mkStr (wpAny_pure ⟨_, rfl, hR⟩) (int_text_fits10 h))
theorem pyReprObj_intN {prog : Program} {w : World} {A : Around} {E : Value → Shared → Prop} {s : Shared} {a : Int} {t : Tok} {Q : Value → Shared → Prop} (hn : s.heap.NoDigits) (ha : a.natAbs < 10 ^ 4300) (h : Q (.str (toString a) s.toks) { s with toks := s.toks + 1 }) : wpAny (model prog w) A (pyReprObj (.int a t)) Q E s := by
  have hv : [Value.int a t].any Value.onHeap = false := rfl
  unfold pyReprObj
  simp only [cRoomFor, hv, Bool.false_eq_true, if_false, pure_bind]
  refine wpAny_bind (wpAny_specialOf (name := Str.ofString "__repr__") (typeIs_int s a t) F.slot_int_repr.lookup ?_)
  refine wpAny_bind (m := callSpecialIfBound? _ (Str.ofString "__repr__")) (wpAny_callSpecialIfBound?_slot (name := Str.ofString "__repr__") (typeIs_int s a t) F.slot_int_repr (call_meets F.slot_int_repr (typeIs_int s a t) F.entry_int_repr (F.args_int_repr_1 _) (meets_int_reprN a t ha) ⟨hn, ?_⟩))
  exact wpAny_bind (wpAny_isInstance (T := "str") (b := true) rfl isSubtype_str_str (wpAny_pure h))
theorem reprK_intN {prog : Program} {w : World} {h₀ : Heap} {a : Int} (t : Tok) (hn : h₀.NoDigits) (ha : a.natAbs < 10 ^ 4300) : ReprK prog w [] h₀ 0 (.int a t) (toString a) := fun base hz A g E s Q hg hcl hu hk hQ => by
  rw [pyReprUnder_leaf (v := .int a t) (by omega) (fun _ e => nomatch e)]
  unfold pyRepr
  exact wpAny_bind (pyReprObj_intN (hn.keeps hk) ha (wpAny_pure (hQ s.heap _ fun _ _ e => e)))
/-- a leaf whose text is z -/
inductive LfT : PyData → Str → Prop where
  | int {i : Int} : i.natAbs < 10 ^ 4300 → LfT (.int i) (toString i)
  | bl (b : Bool) : LfT (.bool b) (if b then "True" else "False")
theorem lfT_len {d : PyData} {z : Str} (h : LfT d z) : z.length ≤ 4301 := by
  cases h with
  | int h =>
    have e := int_text_length_le10 (k := 4300) (by decide) h
    rw [PySem.ofString_length]
    exact e
  | bl b => cases b <;> decide
theorem reads2 {h : Heap} {us : List Value} {d1 d2 : PyData} {as : List Addr} (r : ReadsAll h us [d1, d2] as) : ∃ u1 u2 a1 a2, us = [u1, u2] ∧ Reads h u1 d1 a1 ∧ Reads h u2 d2 a2 := by
  cases r with
  | cons r1 r =>
    cases r with
    | cons r2 r =>
      cases r
      exact ⟨_, _, _, _, rfl, r1, r2⟩
def pairT (x z : Str) : Str := tupleText [reprText x, z]
def rReprN (K : PySem.W.Frag) (x : Str) (d : PyData) (z : Str) : List V → Hp → VK → Prop := fun xs H Q => ∃ v, xs = [v] ∧ Dp K H v (.tuple [.str x, d]) ∧ Q (.str (pairT x z)) H
theorem cr_reprN {X : Cx} {x : Str} {d : PyData} {z : Str} (hg : X.A.guards = some []) (hu : X.A.units + 65 < cLine) (hn : X.base.NoDigits) (hl : LfT d z) (hx : (reprText x).length ≤ 100) : CallR X (.builtin "repr") (rReprN X.K x d z) := by
  intro pins s σ H xs us Q I r h
  obtain ⟨v, rfl, hd, q⟩ := h
  cases r with
  | @cons _ u _ _ r1 rs =>
    cases rs
    obtain ⟨as, rd⟩ := Dp.reads I _ _ _ hd r1
    have hn' : s.heap.NoDigits := hn.keeps I.bk
    cases rd with
    | tuple h1 h2 h3 h4 =>
      rename_i a o vs n
      obtain ⟨vs⟩ := vs
      obtain ⟨u1, u2, a1, a2, rfl, r1, r2⟩ := reads2 h4
      cases r1 with
      | str _ t1 =>
            have hzl := lfT_len hl
            have hK : ∀ {u : Value} {as : List Addr}, Reads s.heap u d as → ReprK X.prog X.w [] s.heap 0 u z := fun {u as} r => by
              cases hl with
              | int hi =>
                cases r
                exact reprK_intN _ hn' hi
              | bl b =>
                cases r
                exact .of_is (ReprIs.bool b) _ _ _
            have hT : ReprAllK X.prog X.w [] s.heap 0 _ [reprText x, z] := .cons (.of_is (ReprIs.str x t1 (by rw [sizeLine_eq]; omega)) _ _ _) (.cons (hK r2) .nil)
            have hsz : (tupleText [reprText x, z]).length ≤ sizeLine := by
              have e : (tupleText [reprText x, z]).length = (reprText x).length + z.length + 4 := by
                show (("(" : Str) ++ (reprText x ++ ", " ++ z) ++ ((")" : String) : Str)).length = _
                rw [strLen_append, strLen_append, strLen_append, strLen_append]
                have e1 : ((("(" : String) : Str)).length = 1 := rfl
                have e2 : (((")" : String) : Str)).length = 1 := rfl
                have e3 : ((", " : String) : Str).length = 2 := rfl
                omega
              rw [e, sizeLine_eq]
              omega
            exact call_repr_slot (by omega) ⟨_, h1, h2⟩ F.slot_tuple_repr (call_tuple_reprK h1 h2 h3 (by simp) hT hg (fun b _ => Clear.nil b) (by show X.A.units + 1 + (0 + 1) < cLine; omega) (fun _ _ e => e) (fun h' u tk hk => ⟨_, _, rfl, ⟨.str (pairT x z), H, I.kept hk, ⟨_, rfl⟩, q⟩⟩) hsz)
section
variable {ι : Type} {Y : ι → Cx} {P : Program} {w : World} {K : PySem.W.Frag} {mg : Str → Option Value} {base : Heap} {k k' : Nat} {σ : L2.St} {H H' : Hp} {a b c e : Expr} {pos p : Pos} {d : PyData} {x z : Str}
/-- repr(a list or tuple of data) -/
theorem de_reprD {ds : List PyData} (F : Fm P w K mg base k Y) (G : ∀ i, (Y i).A.guards = some []) (g : mg "repr" = none) (ha : DE Y K σ H a d) (hd : d = .list ds ∨ d = .tuple ds) (hsh : SeqAt.shaped d = true) (hs : d.showable = true) (hz : d.shown.length ≤ sizeLine) (hg : ∀ i, Gl (Y i) "repr" := by intro _; rfl)
    (he : ∀ i, starEach [a] (Y i).env = (false, eval a (Y i).env) :: starEach [] (Y i).env := by intro _; rfl) (hpl : ∀ i, (backTo pos (starEach [] (Y i).env)).any (·.1) = false := by intro _; rfl) : DE Y K σ H (.Call (.Name "repr" p) [a] [] pos) (.str d.shown) := by
  refine de_blt (id := "repr") F (r := rReprD K) (fun i => ?_) g (by decide +kernel) (xa_d ha xa_nil he) (fun vs H1 _ hv Q q => ?_) hg (by decide) (by decide) he hpl
  · have q := cr_reprD (X := Y i) (G i) (rm64 (F.rm i))
    rw [F.hK i] at q
    exact q
  · obtain ⟨v, rfl, hv1⟩ := vxs1 hv
    exact ⟨v, d, rfl, hv1, ⟨ds, hd⟩, hsh, hs, hz, q _ H1 (Same.refl _) (.str _)⟩
theorem de_reprN (F : Fm P w K mg base k Y) (G : ∀ i, (Y i).A.guards = some []) (N : base.NoDigits) (g : mg "repr" = none) (ha : DE Y K σ H a (.tuple [.str x, d])) (hl : LfT d z) (hx : (reprText x).length ≤ 100 := by decide +kernel) (hg : ∀ i, Gl (Y i) "repr" := by intro _; rfl)
    (he : ∀ i, starEach [a] (Y i).env = (false, eval a (Y i).env) :: starEach [] (Y i).env := by intro _; rfl) (hpl : ∀ i, (backTo pos (starEach [] (Y i).env)).any (·.1) = false := by intro _; rfl) : DE Y K σ H (.Call (.Name "repr" p) [a] [] pos) (.str (pairT x z)) := by
  refine de_blt (id := "repr") F (r := rReprN K x d z) (fun i => ?_) g (by decide +kernel) (xa_d ha xa_nil he) (fun vs H1 _ hv Q q => ?_) hg (by decide) (by decide) he hpl
  · have q := cr_reprN (X := Y i) (x := x) (G i) (rm64 (F.rm i)) (by rw [F.hb i]; exact N) hl hx
    rw [F.hK i] at q
    exact q
  · obtain ⟨v, rfl, hv1⟩ := vxs1 hv
    exact ⟨v, rfl, hv1, q _ H1 (Same.refl _) (.str _)⟩
end
end PK
namespace PK
open L2 PySem PySem.Spec PyProof.Rows
/-! ## int('9' * 999) -/
def nines : Str := ⟨(List.replicate 999 (#[57] : Array Nat)).foldl (· ++ ·) #[]⟩
def farN : Nat := 10 ^ 999 - 1
theorem farN_lt : farN < 10 ^ 4300 := by decide +kernel
theorem nines_len : nines.length = 999 := by decide +kernel
theorem nines_list : nines.cps.toList = List.replicate 999 57 := by decide +kernel
theorem nines_text : numTextOf nines = List.replicate 999 57 := by
  rw [(numText_signs (x := nines) (by
    rw [nines_list]
    intro c hc
    rw [List.eq_of_mem_replicate hc]
    exact .inr ⟨by decide, by decide⟩)).1, nines_list]
theorem nines_seenL : numSeenOf nines = List.replicate 999 57 := by
  rw [(numText_signs (x := nines) (by
    rw [nines_list]
    intro c hc
    rw [List.eq_of_mem_replicate hc]
    exact .inr ⟨by decide, by decide⟩)).2, nines_list]
theorem nines_seen : ¬ (numSeenOf nines).length ≤ 640 := by
  rw [nines_seenL, List.length_replicate]
  decide
theorem nines_same : ((numSeenOf nines).length == (numTextOf nines).length) = true := by
  rw [nines_seenL, nines_text]
  simp
theorem nines_int : intText? nines = some ((farN : Nat) : Int) := by
  rw [intText_digits (x := nines) (by
    rw [nines_list]
    intro c hc
    rw [List.eq_of_mem_replicate hc]
    exact ⟨by decide, by decide⟩) (by
    rw [nines_list]
    decide) (by
    rw [nines_len]
    decide), nines_list]
  have e : NumText.digitsVal (List.replicate 999 57) = farN := by decide +kernel
  rw [e]
theorem readN {x : Str} {n : Int} (h : intText? x = some n) : (int_private% "readNumeral") 4300 10 (numSeenOf x) = (int_private% "Numeral.value") n := by
  rw [NumText.readNumeral_ten]
  unfold intText? at h
  split at h
  · cases hd : NumText.digits? 10 (NumText.core (numSeenOf x)) with
    | none =>
      rw [hd] at h
      cases h
    | some ds =>
      rw [hd] at h
      dsimp only at h
      split at h
      · rename_i hz
        cases h
        exact NumText.judge_ok (.inr hz) (by omega)
      · cases h
  · cases h
theorem nines_read : (int_private% "readNumeral") 4300 10 (numSeenOf nines) = (int_private% "Numeral.value") ((farN : Nat) : Int) := readN nines_int
theorem wp_textN {M : Model} {A : Around} {E : Value → Shared → Prop} {s : Shared} {Q : Value → Shared → Prop} {v : Value} {text : List Nat} {n : Int} (hn : s.heap.NoDigits)
    (hs : ¬ (text.takeWhile (· != 0)).length ≤ 640) (hr : (int_private% "readNumeral") 4300 10 (text.takeWhile (· != 0)) = (int_private% "Numeral.value") n)
    (ha : ((text.takeWhile (· != 0)).length == text.length) = true) (h : Q (.int n s.toks) { s with toks := s.toks + 1 }) : wpAny M A ((int_private% "intFromText") v text 10) Q E s := by
  obtain ⟨mc, hns, hnone⟩ := hn
  obtain ⟨hp, g, d, tk, os⟩ := s
  have lim : ∀ (Q' : Nat → Shared → Prop), Q' 4300 ⟨hp, g, d, tk, os⟩ → wpAny M A Builtin.intMaxStrDigits Q' E ⟨hp, g, d, tk, os⟩ := fun Q' q => by
    unfold Builtin.intMaxStrDigits
    refine wpAny_bind (wpAny_nsGet hns ?_)
    rw [hnone]
    exact wpAny_pure q
  repeat (any_goals (first
    | assumption
    | (with_reducible refine wpAny_ite_false (decide_eq_false hs) ?_)
    | (with_reducible refine wpAny_ite_true (decide_eq_true ha) ?_)
    | (with_reducible refine lim _ ?_)
    | wp_step))
  all_goals (try rw [hr])
  all_goals (try dsimp only)
  repeat (any_goals (first
    | assumption
    | (with_reducible refine wpAny_ite_true (decide_eq_true ha) ?_)
    | wp_step))
structure HidN (p : Prop) : Prop where
  out : p
theorem meets_textN {u : Tok} : Meets (Builtin.«int.__new__» ⟨[.type "int", .str nines u], []⟩) (fun _ R s => s.heap.NoDigits ∧ R (.ok (.ret (.int ((farN : Nat) : Int) s.toks))) { s with toks := s.toks + 1 }) :=
  .of_wp fun prog w A R s h => by
    obtain ⟨hn, h⟩ := h
    have hk := HidN.mk (And.intro hn (And.intro nines_seen (And.intro nines_read nines_same)))
    clear hn
    generalize ((farN : Nat) : Int) = n at h hk
    generalize nines = x at hk ⊢
    obtain ⟨hp, g, d, tk, os⟩ := s
    have f1 := F.conv_sub_int
    have f2 := F.madeHere_int
    have f3 := PySem.W.KIN.str_int
    have f4 := PySem.W.KIN.str_idx
    have f5 := PySem.W.KIN.str_trunc
    have f6 : typeOf (.str x u) = pure (.type "str") := rfl
    repeat (any_goals (first
      | assumption
      | ((with_reducible show wpAny _ _ ((int_private% "intFromText") _ _ _) _ _ _); refine wp_textN hk.out.1 hk.out.2.1 hk.out.2.2.1 hk.out.2.2.2 ?_)
      | wp_step))
    all_goals first | exact ⟨_, rfl, h⟩ | skip
theorem op_mulNines {X : Cx} : OpR X (binaryOp .Mult) (fun x y H Q => x = .str "9" ∧ y = .int 999 ∧ Q (.str nines) H) := by
  intro pins s σ H x y v u Q I rx ry h
  obtain ⟨rfl, rfl, q⟩ := h
  obtain ⟨t, rfl⟩ := rx
  obtain ⟨t', rfl⟩ := ry
  refine P.mul_str (x := "9") (n := 999) (by decide) (fun _ _ => by decide) (fun _ _ => by decide +kernel) ?_
  rw [if_neg (by decide), if_neg (by decide)]
  exact ⟨by show nines.length ≤ sizeLine; rw [nines_len, sizeLine_eq]; decide, ⟨.str nines, H, I.tok _, ⟨_, rfl⟩, q⟩⟩
theorem call_intN {X : Cx} (hn : X.base.NoDigits) : CallR X (.type "int") (fun xs H Q => xs = [.str nines] ∧ Q (.int ((farN : Nat) : Int)) H) := by
  intro pins s σ H xs us Q I rs h
  obtain ⟨rfl, h⟩ := h
  cases rs with
  | cons r1 rs =>
    cases rs
    obtain ⟨t, rfl⟩ := r1
    exact PySem.call_int_1 meets_textN ⟨hn.keeps I.bk, rfl, ⟨.int _, H, I.tok _, ⟨_, rfl⟩, h⟩⟩
section
variable {ι : Type} {Y : ι → Cx} {P : Program} {w : World} {K : PySem.W.Frag} {mg : Str → Option Value} {base : Heap} {k k' : Nat} {σ : L2.St} {H H' : Hp} {a b c e : Expr} {pos p : Pos} {d : PyData} {x z : Str}
theorem de_nines (ha : DE Y K σ H a (.str "9")) (hb : DE Y K σ H b (.int 999)) : DE Y K σ H (.BinOp a .Mult b pos) (.str nines) := by
  obtain ⟨t1, h1, q1⟩ := ha
  obtain ⟨t2, h2, q2⟩ := hb
  refine ⟨_, fun i => pe_op op_mulNines (h1 i) (h2 i), fun H1 e1 Q q => q1 H1 e1 _ fun v H2 e2 hv => q2 H2 (e1.trans (up_of e2)) _ fun u H3 e3 hu => ?_⟩
  cases hv
  cases hu
  exact ⟨rfl, rfl, q _ H3 (e2.trans e3) (.str _)⟩
theorem de_intN (F : Fm P w K mg base k Y) (N : base.NoDigits) (g : mg "int" = none) (ha : DE Y K σ H a (.str nines)) (hg : ∀ i, Gl (Y i) "int" := by intro _; rfl)
    (he : ∀ i, starEach [a] (Y i).env = (false, eval a (Y i).env) :: starEach [] (Y i).env := by intro _; rfl) (hpl : ∀ i, (backTo pos (starEach [] (Y i).env)).any (·.1) = false := by intro _; rfl) : DE Y K σ H (.Call (.Name "int" p) [a] [] pos) (.int ((farN : Nat) : Int)) := by
  refine de_ty F (fun i => call_intN (by rw [F.hb i]; exact N)) g PyProof.Rows.boot_int (xa_d ha xa_nil he) (fun vs H1 _ hv Q q => ?_) hg (by decide) (by decide) he hpl
  obtain ⟨v, rfl, hv1⟩ := vxs1 hv
  cases hv1
  exact ⟨rfl, q _ H1 (Same.refl _) (.int _)⟩
end
end PK
namespace PK
open L2 PySem PySem.Spec PyProof.Rows
/-! ## data that repr shows within the line -/
structure Ok13 (d : PyData) (p b : Nat) : Prop where
  lay : d.canLay0 = true
  dep : d.depth ≤ p
  shw : d.showable = true
  lvs : d.leavesShort 13 = true
  blk : d.bulk ≤ b
structure OkL (ds : List PyData) (p b : Nat) : Prop where
  lay : PyData.canLayAll0 ds = true
  dep : PyData.depthAll ds ≤ p
  shw : PyData.showableAll ds = true
  lvs : PyData.leavesShortAll 13 ds = true
  blk : PyData.bulkAll ds ≤ b
theorem okl_nil {p b : Nat} : OkL [] p b := ⟨rfl, Nat.zero_le _, rfl, rfl, Nat.zero_le _⟩
theorem okl_cons {d : PyData} {ds : List PyData} {p b b' : Nat} (h : Ok13 d p b) (r : OkL ds p b') : OkL (d :: ds) p (b + 1 + b') := by
  refine ⟨?_, ?_, ?_, ?_, ?_⟩
  · unfold PyData.canLayAll0
    rw [h.lay, r.lay] <;> rfl
  · unfold PyData.depthAll
    exact Nat.max_le.mpr ⟨h.dep, r.dep⟩
  · unfold PyData.showableAll
    rw [h.shw, r.shw] <;> rfl
  · unfold PyData.leavesShortAll
    rw [h.lvs, r.lvs] <;> rfl
  · unfold PyData.bulkAll
    have := h.blk
    have := r.blk
    omega
theorem ok_tup {ds : List PyData} {p b : Nat} (h : OkL ds p b) : Ok13 (.tuple ds) (p + 1) b := by
  refine ⟨?_, ?_, ?_, ?_, ?_⟩
  · unfold PyData.canLay0
    exact h.lay
  · unfold PyData.depth
    exact Nat.succ_le_succ h.dep
  · unfold PyData.showable
    exact h.shw
  · unfold PyData.leavesShort
    exact h.lvs
  · unfold PyData.bulk
    exact h.blk
theorem ok_lst {ds : List PyData} {p b : Nat} (h : OkL ds p b) : Ok13 (.list ds) (p + 1) b := by
  refine ⟨?_, ?_, ?_, ?_, ?_⟩
  · unfold PyData.canLay0
    exact h.lay
  · unfold PyData.depth
    exact Nat.succ_le_succ h.dep
  · unfold PyData.showable
    exact h.shw
  · unfold PyData.leavesShort
    exact h.lvs
  · unfold PyData.bulk
    exact h.blk
def B8 (i : Int) : Prop := 0 ≤ i ∧ i ≤ 8
theorem ok_int {i : Int} {p : Nat} (h : B8 i) : Ok13 (.int i) p 0 := by
  obtain ⟨h1, h2⟩ := h
  refine ⟨rfl, Nat.zero_le _, ?_, ?_, Nat.le_refl _⟩
  · unfold PyData.showable
    have h3 : i = 0 ∨ i = 1 ∨ i = 2 ∨ i = 3 ∨ i = 4 ∨ i = 5 ∨ i = 6 ∨ i = 7 ∨ i = 8 := by omega
    rcases h3 with rfl | rfl | rfl | rfl | rfl | rfl | rfl | rfl | rfl <;> decide
  · unfold PyData.leavesShort
    exact decide_eq_true (PyData.shown_int_le2 (by omega) (by omega))
theorem ok_ev {e : Str} {p : Nat} (h : e ∈ evs) : Ok13 (.str e) p 10 := by
  simp only [evs, List.mem_cons, List.not_mem_nil, or_false] at h
  rcases h with rfl | rfl | rfl | rfl | rfl | rfl | rfl | rfl <;> exact ⟨by decide +kernel, Nat.zero_le _, rfl, by decide +kernel, by decide +kernel⟩
theorem ok_srv {e : Str} {p : Nat} (h : SrvOk e) : Ok13 (.str e) p 10 := by
  rcases h with rfl | rfl | rfl | rfl <;> exact ⟨by decide +kernel, Nat.zero_le _, rfl, by decide +kernel, by decide +kernel⟩
theorem okl_evs {p : Nat} : ∀ (ws : List Str), (∀ e ∈ ws, e ∈ evs) → OkL (ws.map PyData.str) p (11 * ws.length)
  | [], _ => okl_nil
  | e :: ws, h => by
    have q := okl_cons (ok_ev (p := p) (h e (List.mem_cons_self ..))) (okl_evs (p := p) ws fun x hx => h x (List.mem_cons_of_mem _ hx))
    have e : 10 + 1 + 11 * ws.length = 11 * (ws.length + 1) := by omega
    rw [e] at q
    exact q
theorem Ok13.repr {d : PyData} {p b : Nat} (h : Ok13 d p b) (hp : p ≤ 60) (hb : b ≤ 1000000) : SeqAt.shaped d = true ∧ d.showable = true ∧ d.shown.length ≤ sizeLine := by
  refine ⟨?_, h.shw, PyData.shown_fits_bulk (by decide) (by decide) h.lvs (Nat.le_trans h.blk (by omega))⟩
  unfold SeqAt.shaped
  rw [h.lay, Bool.true_and]
  exact decide_eq_true (Nat.le_trans h.dep (by omega))
/-! ## states whose numbers are small -/
def CpT : Cp → Prop
  | none => True
  | some (a, b, c, d) => B8 a ∧ B8 b ∧ B8 c ∧ B8 d
def LtT : Lt → Prop
  | none => True
  | some (n, c, m) => B8 n ∧ CpT c ∧ B8 m
structure Tame (s : StD) : Prop where
  srv : SrvOk s.srv
  num : B8 s.num
  cp : CpT s.cp
  kn : B8 s.kn
  ow : B8 s.ow
  dn : B8 s.dn
  lt : LtT s.lt
theorem b0 : B8 0 := ⟨by decide, by decide⟩
theorem b1 : B8 1 := ⟨by decide, by decide⟩
theorem ok_cp {c : Cp} {p : Nat} (h : CpT c) : Ok13 (cpD c) (p + 1) 4 := by
  rcases c with _ | ⟨a, b, c, d⟩
  · exact ok_tup okl_nil
  · obtain ⟨h1, h2, h3, h4⟩ := h
    exact ok_tup (okl_cons (ok_int h1) (okl_cons (ok_int h2) (okl_cons (ok_int h3) (okl_cons (ok_int h4) (okl_nil (b := 0))))))
theorem ok_lt {l : Lt} {p : Nat} (h : LtT l) : Ok13 (ltD l) (p + 2) 7 := by
  rcases l with _ | ⟨n, c, m⟩
  · exact ok_tup okl_nil
  · obtain ⟨h1, h2, h3⟩ := h
    exact ok_tup (okl_cons (ok_int h1) (okl_cons (ok_cp h2) (okl_cons (ok_int h3) (okl_nil (b := 0)))))
theorem Tame.ok {s : StD} (h : Tame s) : Ok13 s.d 3 28 :=
  ok_tup (okl_cons (ok_srv h.srv) (okl_cons (ok_int h.num) (okl_cons (ok_cp (p := 1) h.cp) (okl_cons (ok_int h.kn) (okl_cons (ok_int h.ow) (okl_cons (ok_int h.dn) (okl_cons (ok_lt (p := 0) h.lt) (okl_nil (b := 0)))))))))
theorem two_ok {d : PyData} {p b : Nat} (h : Ok13 d p b) (hp : p ≤ 50) (hb : b ≤ 1000) : SeqAt.shaped (.list [d, d]) = true ∧ (PyData.list [d, d]).showable = true ∧ (PyData.list [d, d]).shown.length ≤ sizeLine :=
  (ok_lst (okl_cons h (okl_cons h (okl_nil (b := 0))))).repr (by omega) (by omega)
theorem srv_after {s a : Str} (h : SrvOk s) : SrvOk (serverAfter s a) := by
  unfold serverAfter
  split
  · split
    · exact .inr (.inl rfl)
    · exact h
  · split
    · split
      · exact .inr (.inr (.inr rfl))
      · exact h
    · exact .inl rfl
theorem cp_after {s a : Str} {c : Cp} (h : CpT c) : CpT (copyAfter s c a) := by
  rcases c with _ | ⟨x, l, t, n⟩
  · trivial
  · obtain ⟨h1, h2, h3, h4⟩ := h
    unfold copyAfter
    dsimp only
    split
    · exact ⟨h1, h2, h3, b0⟩
    · split
      · exact ⟨b0, b0, b0, h4⟩
      · refine ⟨b0, ?_, h4, h4⟩
        split
        · exact h2
        · exact b0
theorem bif_b8 {b : Bool} : B8 (bif b then 1 else 0) := by cases b <;> first | exact b0 | exact b1
theorem tame_acted {s : StD} {a : Str} {own : Bool} (h : Tame s) : Tame (acted s a own) := by
  refine ⟨srv_after h.srv, h.num, cp_after h.cp, b0, bif_b8, ?_, ?_⟩
  · obtain ⟨h1, h2⟩ := h.dn
    unfold acted
    cases own
    · exact ⟨h1, h2⟩
    · show B8 (if s.dn + 1 < 2 then s.dn + 1 else 2)
      unfold B8
      split <;> omega
  · obtain ⟨srv, num, cp, kn, ow, dn, lt⟩ := s
    rcases lt with _ | ⟨n, c, m⟩
    · trivial
    · obtain ⟨h1, h2, h3⟩ := h.lt
      refine ⟨h1, cp_after h2, ?_⟩
      cases own
      · exact b0
      · exact h3
theorem tame_ticked {s : StD} (h : Tame s) : Tame (ticked s) := by
  obtain ⟨srv, num, cp, kn, ow, dn, lt⟩ := s
  refine ⟨srv_after (a := "tick") h.srv, h.num, cp_after (a := "tick") h.cp, h.kn, h.ow, h.dn, ?_⟩
  rcases lt with _ | ⟨n, c, m⟩
  · trivial
  · obtain ⟨h1, h2, h3⟩ := h.lt
    exact ⟨h1, cp_after h2, h3⟩
theorem nx_b8 {m i : Int} (h : NxOk m i) (hm : m ≤ 8) : B8 i := ⟨h.1, by have := h.2; omega⟩
theorem next_b8 {m : Int} {o : Stp} {x : Str} (h : StpOk m o) (hm : m ≤ 8) : B8 (nextD o x) := by
  cases o with
  | read k a b c d e =>
    obtain ⟨_, h1, h2, h3, h4, h5⟩ := h
    show B8 (if x = "got" then a else if x = "mine" then b else if x = "unchanged" then c else if x = "absent" then d else e)
    split
    · exact nx_b8 h1 hm
    split
    · exact nx_b8 h2 hm
    split
    · exact nx_b8 h3 hm
    split
    · exact nx_b8 h4 hm
    · exact nx_b8 h5 hm
  | put k z a b c =>
    obtain ⟨_, _, h1, h2, h3⟩ := h
    show B8 (if x = "yes" then a else if x = "no" then b else c)
    split
    · exact nx_b8 h1 hm
    split
    · exact nx_b8 h2 hm
    · exact nx_b8 h3 hm
  | take k a b c d =>
    obtain ⟨_, h1, h2, h3, h4⟩ := h
    show B8 (if x = "yes" then a else if x = "no" then b else if x = "absent" then c else d)
    split
    · exact nx_b8 h1 hm
    split
    · exact nx_b8 h2 hm
    split
    · exact nx_b8 h3 hm
    · exact nx_b8 h4 hm
  | forget n => exact b0
  | fin w => exact b0
theorem Tame.at {s : StD} {n : Int} (h : Tame s) (hn : B8 n) : Tame { s with num := n } := ⟨h.srv, hn, h.cp, h.kn, h.ow, h.dn, h.lt⟩
theorem cp1111 {b : Bool} : CpT (some (1, 1, 1, bif b then 1 else 0)) := ⟨b1, b1, b1, bif_b8⟩
theorem cpPut (o : Stp) : CpT (putCp o) := by cases o <;> first | trivial | exact ⟨b1, b1, b1, b1⟩
theorem tame_ans {m : Int} {o : Stp} {s : StD} {x : Str} (h : Tame s) (ho : StpOk m o) (hm : m ≤ 8) : Tame (ansStep o s x) := by
  have hn := next_b8 (x := x) ho hm
  have hA := h.at hn
  unfold ansStep
  split
  · exact ⟨h.srv, hn, cp1111, b1, h.ow, h.dn, h.lt⟩
  split
  · have q := tame_acted (a := actOf o) (own := true) hA
    exact ⟨q.srv, q.num, cpPut o, b1, q.ow, q.dn, q.lt⟩
  split
  · exact ⟨h.srv, hn, trivial, b1, h.ow, h.dn, h.lt⟩
  · exact hA
theorem tame_answered {m : Int} {o : Stp} {s : StD} (h : Tame s) (ho : StpOk m o) (hm : m ≤ 8) : Tame (answeredD o s) := by
  cases o with
  | forget n => exact ⟨h.srv, nx_b8 ho hm, trivial, h.kn, h.ow, h.dn, h.lt⟩
  | _ => exact tame_ans h ho hm
theorem sent_b8 (s : StD) : B8 (sentM s) := by
  unfold sentM
  split
  · exact b1
  · exact b0
theorem tame_unheard {m : Int} {o : Stp} {s : StD} {n : Str} (h : Tame s) (ho : StpOk m o) (hm : m ≤ 8) : Tame (unheardD o s n) := by
  have q := tame_acted (a := actOf o) (own := true) h
  have hn := next_b8 (x := "lost") ho hm
  unfold unheardD
  cases decide (n = "again")
  · exact q.at hn
  · exact ⟨q.srv, hn, q.cp, q.kn, q.ow, q.dn, h.num, cp_after h.cp, sent_b8 s⟩
theorem tame_unsent {m : Int} {o : Stp} {s : StD} {n : Str} (h : Tame s) (ho : StpOk m o) (hm : m ≤ 8) : Tame (unsentD o s n) := by
  have hn := next_b8 (x := "lost") ho hm
  unfold unsentD
  cases decide (n = "lost") || !isWr o
  · exact ⟨h.srv, hn, h.cp, h.kn, h.ow, h.dn, h.num, h.cp, sent_b8 s⟩
  · exact h.at hn
theorem tame_come {o : Stp} {s : StD} {c : Cp} {n : Str} (h : Tame s) : Tame (comeD o s c n) := by
  have q : Tame (comeL o s c) := by
    unfold comeL
    cases isDoneBy o s.srv c
    · exact h
    · exact tame_acted h
  unfold comeD
  cases decide (n = "again")
  · exact ⟨q.srv, q.num, q.cp, q.kn, q.ow, q.dn, trivial⟩
  · exact q
theorem tame_stepped {m : Int} {o o2 : Stp} {s : StD} {e n : Str} (h : Tame s) (ho : StpOk m o) (hm : m ≤ 8) : Tame (steppedD o o2 s e n) := by
  unfold steppedD
  split
  · exact tame_ticked h
  split
  · exact tame_answered h ho hm
  split
  · exact tame_unheard h ho hm
  split
  · exact tame_unsent h ho hm
  split
  · exact tame_come h
  · exact tame_acted h
theorem cpT_of {s : Str} {c : Cp} (h : CpOk s c) : CpT c := by
  rcases c with _ | t
  · trivial
  · rcases h with ⟨_, h | h | h | h | h⟩ | ⟨_, h | h⟩ | ⟨_, h | h | h | h | h⟩ <;> subst h <;> exact ⟨by first | exact b0 | exact b1, by first | exact b0 | exact b1, by first | exact b0 | exact b1, by first | exact b0 | exact b1⟩
theorem bit_b8 {i : Int} (h : BitOk i) : B8 i := by rcases h with rfl | rfl <;> first | exact b0 | exact b1
theorem tame_of {ss : List PyData} {s : StD} (h : StaOk ss s) (hl : ss.length ≤ 8) : Tame s := by
  obtain ⟨srv, num, cp, kn, ow, dn, lt⟩ := s
  refine ⟨h.srv, nx_b8 h.num (by omega), cpT_of h.cp, bit_b8 h.kn, bit_b8 h.ow, nx_b8 h.dn (by decide), ?_⟩
  rcases lt with _ | ⟨n, c, m⟩
  · trivial
  · obtain ⟨_, h1, h2, h3⟩ := h.lt
    exact ⟨nx_b8 h1 (by omega), cpT_of h2, bit_b8 h3⟩
/-! ## the steps of a state -/
theorem at_of {os : List Stp} {n : Int} (h : NxOk (os.map Stp.d).length n) (hok : ∀ o ∈ os, StpOk os.length o) : ∃ o ∈ os, At (os.map Stp.d) n o := by
  obtain ⟨h1, h2⟩ := h
  rw [List.length_map] at h2
  have hi : n.toNat < os.length := by omega
  refine ⟨os[n.toNat], List.getElem_mem hi, ?_, ConOk.of (hok _ (List.getElem_mem hi))⟩
  unfold atI ixN
  rw [if_pos h1, if_pos (by rw [List.length_map]; omega)]
  simp [hi]
theorem late_of {ss : List PyData} {s : StD} (h : StaOk ss s) : ∃ o2, LateAt ss s o2 := by
  have q := h.lt
  cases e : s.lt with
  | none => exact ⟨.forget 0, fun j c m z => by
      rw [e] at z
      cases z⟩
  | some t =>
    obtain ⟨n, c, m⟩ := t
    rw [e] at q
    obtain ⟨⟨o, h1, h2⟩, _⟩ := q
    exact ⟨o, fun j c' m' z => by
      rw [e] at z
      cases z
      exact ⟨h1, h2⟩⟩
theorem safe_of {ss : List PyData} {s : StD} (h : StaOk ss s) : SafeS s := by
  obtain ⟨srv, num, cp, kn, ow, dn, lt⟩ := s
  refine ⟨.of h.cp, ?_, by have := h.dn.2; omega⟩
  rcases lt with _ | ⟨n, c, m⟩
  · intro x l t n e
    cases e
  · obtain ⟨_, _, h2, _⟩ := h.lt
    exact .of h2
end PK
namespace PK
open L2 PySem PySem.Spec PyProof.Rows
section
variable {ι : Type} {Y : ι → Cx} {P : Program} {w : World} {K : PySem.W.Frag} {mg : Str → Option Value} {base : Heap} {k : Nat} {σ : L2.St} {H H' : Hp} {a b c e : Expr} {pos p : Pos} {x : Str} {D : Ends} {rest : List Stmt} {I I2 : Hp → Prop} {Pb : PyData → Prop} {y1 : Dx}
/-- a, b = two drawn data -/
theorem dsi_unp2 {I I1 : Hp → Prop} {Pa : PyData → Prop} {jx jy n n2 : Nat} {tp tp2 : Pos} {es : List Expr} (F : Fm P w K mg base k Y) (hI : SI I2) (h1 : EI Y K σ H I I1 a Pa) (h2 : EI Y K σ H I1 I2 b Pb) (hi0 : I H) (g : GN Y es [jx, jy]) (hk : ∀ v u d d' H1, Up H H1 → I2 H1 → Dp K H1 v d → Pa d → Dp K H1 u d' → Pb d' → DSs Y D ((σ.set jx (some v)).set jy (some u)) H1 rest)
    (hn : ∀ l, (assignEach es (Y l).env).length = 2 := by intro _; rfl) (hst : ∀ l, (assignEach es (Y l).env).findIdx? (·.1) = none := by intro _; rfl)
    (hs : ∀ l, swapsWithSole [.Tuple es n tp] (.Tuple [a, b] n2 tp2) pos.line (Y l).env = pure false := by intro _; rfl) (hw : ∀ l, swappedStores [.Tuple es n tp] (.Tuple [a, b] n2 tp2) (Y l).env = pure none := by intro _; rfl)
    (he : ∀ l, starEach [a, b] (Y l).env = (false, eval a (Y l).env) :: starEach [b] (Y l).env := by intro _; rfl) (he2 : ∀ l, starEach [b] (Y l).env = (false, eval b (Y l).env) :: starEach [] (Y l).env := by intro _; rfl) : DSs Y D σ H (.Assign [.Tuple es n tp] (.Tuple [a, b] n2 tp2) pos :: rest) := by
  obtain ⟨t1, ht1, q1⟩ := h1
  obtain ⟨t2, ht2, q2⟩ := h2
  obtain ⟨g, hg, q⟩ := g
  refine ds_cons ⟨tAsg (tTup (tCons t1 (tCons t2 tNil))) (gTup K 2 g), fun l => ps_asg (pe_tup (pa_cons (ht1 l) (pa_cons (ht2 l) pa_nil (he2 l)) (he l))) (by
    have z := pg_tup (k := n) (pos := tp) (F.calm l) (hg l) (hn l) (hst l)
    rw [F.hK l] at z
    exact z) (hs l) (hw l), ?_⟩
  refine q1 H (Up.refl H) hi0 _ fun v d H1 e1 i1 h1 hd => q2 H1 e1 i1 _ fun u d' H2 e2 i2 h2 hd' => ?_
  refine ⟨by show 2 ≤ sizeLine; decide, fun p hp => ?_⟩
  have eS := same_new (o := .tup [v, u]) hp
  exact ⟨p, [v, u], rfl, SqT.of upd_same, rfl, q [v, u] σ _ _ rfl (hk v u d d' _ ((e1.trans e2).trans (up_of eS)) (hI _ _ eS i2) (dp_up (e2.trans (up_of eS)) _ _ h1) hd (dp_up (up_of eS) _ _ h2) hd')⟩
/-- a, b = a script, a drawn datum -/
theorem dsi_unpX {jx jy n n2 : Nat} {tp tp2 : Pos} {es : List Expr} (F : Fm P w K mg base k Y) (hI : SI I) (hI2 : SI I2) (h1 : XE Y K σ H a y1) (h2 : EI Y K σ H I I2 b Pb) (hi0 : I H) (g : GN Y es [jx, jy]) (hk : ∀ v u d' H1, Up H H1 → I2 H1 → Vx K H1 v y1 → Dp K H1 u d' → Pb d' → DSs Y D ((σ.set jx (some v)).set jy (some u)) H1 rest)
    (hn : ∀ l, (assignEach es (Y l).env).length = 2 := by intro _; rfl) (hst : ∀ l, (assignEach es (Y l).env).findIdx? (·.1) = none := by intro _; rfl)
    (hs : ∀ l, swapsWithSole [.Tuple es n tp] (.Tuple [a, b] n2 tp2) pos.line (Y l).env = pure false := by intro _; rfl) (hw : ∀ l, swappedStores [.Tuple es n tp] (.Tuple [a, b] n2 tp2) (Y l).env = pure none := by intro _; rfl)
    (he : ∀ l, starEach [a, b] (Y l).env = (false, eval a (Y l).env) :: starEach [b] (Y l).env := by intro _; rfl) (he2 : ∀ l, starEach [b] (Y l).env = (false, eval b (Y l).env) :: starEach [] (Y l).env := by intro _; rfl) : DSs Y D σ H (.Assign [.Tuple es n tp] (.Tuple [a, b] n2 tp2) pos :: rest) := by
  obtain ⟨t1, ht1, q1⟩ := h1
  obtain ⟨t2, ht2, q2⟩ := h2
  obtain ⟨g, hg, q⟩ := g
  refine ds_cons ⟨tAsg (tTup (tCons t1 (tCons t2 tNil))) (gTup K 2 g), fun l => ps_asg (pe_tup (pa_cons (ht1 l) (pa_cons (ht2 l) pa_nil (he2 l)) (he l))) (by
    have z := pg_tup (k := n) (pos := tp) (F.calm l) (hg l) (hn l) (hst l)
    rw [F.hK l] at z
    exact z) (hs l) (hw l), ?_⟩
  refine q1 H (Up.refl H) _ fun v H1 e1 h1 => q2 H1 (up_of e1) (hI _ _ e1 hi0) _ fun u d' H2 e2 i2 h2 hd' => ?_
  refine ⟨by show 2 ≤ sizeLine; decide, fun p hp => ?_⟩
  have eS := same_new (o := .tup [v, u]) hp
  exact ⟨p, [v, u], rfl, SqT.of upd_same, rfl, q [v, u] σ _ _ rfl (hk v u d' _ (((up_of e1).trans e2).trans (up_of eS)) (hI2 _ _ eS i2) (vx_up (e2.trans (up_of eS)) h1) (dp_up (up_of eS) _ _ h2) hd')⟩
/-- m = begun(script, k) -/
theorem ds_begun (T : Txt w K mg) {ns : List Int} {kk : Int} {pos' pos2 p0 : Pos} (j : Nat) (F : Fm P w K mg base k Y) (h0 : DE Y K σ H a (.list (ns.map .int))) (h1 : DE Y K σ H b (.int kk)) (hk0 : 0 ≤ kk) (hk7 : kk ≤ 7) (hl : ns.length ≤ 63)
    (hk : ∀ (m : Md) H1, Up H H1 → MOk K m 1000000 H1 → DSs Y D (σ.set j (some (.ref m.p))) H1 rest) (hle : 1 ≤ k := by decide) (hg : ∀ i, Gl (Y i) "_law_begun" := by intro _; rfl) (hi : ∀ l, (Y l).N[j]? = some x := by intro _; rfl) (hx : ∀ l, Loc (Y l).env.scope x := by intro _; first | exact Or.inl rfl | exact Or.inr rfl)
    (hs : ∀ l, swapsWith (.Call (.Name "_law_begun" p0) [a, b] [] pos2) (some (.Name x pos')) pos.line (Y l).env = pure false := by intro _; rfl) (hf : ∀ l, (Y l).fn x = true ∨ (Y l).env.scope.names.lookup x = some .local := by intro _; first | exact .inl rfl | exact .inr rfl)
    (he : ∀ l, starEach [a, b] (Y l).env = (false, eval a (Y l).env) :: starEach [b] (Y l).env := by intro _; rfl) (he2 : ∀ l, starEach [b] (Y l).env = (false, eval b (Y l).env) :: starEach [] (Y l).env := by intro _; rfl) (hpl : ∀ l, (backTo pos2 (starEach [b] (Y l).env)).any (·.1) = false := by intro _; rfl) :
    DSs Y D σ H (.Assign [.Name x pos'] (.Call (.Name "_law_begun" p0) [a, b] [] pos2) pos :: rest) := by
  obtain ⟨f, fd, ps, G, kp, gm, bd⟩ := f_law_begun (P := P) (base := base) T
  obtain ⟨t1, ht, q1⟩ := xa_d h0 (xa_d h1 xa_nil he2) he
  refine ds_cons ⟨tAsg (tCall (spBegun K) [] E0 t1) (gName j), fun l => ps_set (F.nd l) (hi l) (hx l) ?_ (hs l) (hf l), q1 H (Up.refl H) _ fun vs H2 e2 hv => ?_⟩
  · have G' : FnOk (Y l).prog (Y l).w (Y l).K (Y l).mg (Y l).base CX0 1 f fd ps (spBegun K) := by
      rw [F.hP l, F.hw l, F.hK l, F.hmg l, F.hb l]
      exact G
    exact pe_call G' ((F.rm l).mono hle) (hg l) (by rw [F.hmg l]; exact gm) (by rw [F.hK l]; exact kp) (by rw [F.hK l]; exact bd) .nil pass0 (ht l) (by decide) (he l) (hpl l)
  · obtain ⟨v, u, rfl, g0, g1⟩ := vxs2 hv
    exact ⟨v, u, ns, kk, rfl, g0, g1, hk0, hk7, hl, fun m H' u' i' => hk m H' ((up_of e2).trans u') i'⟩
/-- any_steps(m, 8) -/
theorem ei_anySteps {m : Md} {p0 mp : Pos} {xm : Str} (T : Txt w K mg) (j : Nat) (b : Nat) (F : Fm P w K mg base k Y) (hj : σ[j]? = some (some (.ref m.p))) (h : DE Y K σ H e (.int 8)) (hk : 4 ≤ k := by decide) (hg : ∀ i, Gl (Y i) "_law_any_steps" := by intro _; rfl)
    (hN : ∀ i, (Y i).N[j]? = some xm := by intro _; rfl) (hv : ∀ i, Vis (Y i).env.scope xm := by intro _; first | exact Or.inl rfl | exact Or.inr (Or.inl rfl) | exact Or.inr (Or.inr rfl)) (hd : (xm == ("__debug__" : Str)) = false := by decide) (hcd : (xm == ("__classdict__" : Str)) = false := by decide)
    (he : ∀ i, starEach [.Name xm mp, e] (Y i).env = (false, eval (.Name xm mp) (Y i).env) :: starEach [e] (Y i).env := by intro _; rfl) (he2 : ∀ i, starEach [e] (Y i).env = (false, eval e (Y i).env) :: starEach [] (Y i).env := by intro _; rfl) (hpl : ∀ i, (backTo pos (starEach [e] (Y i).env)).any (·.1) = false := by intro _; rfl) :
    EI Y K σ H (MOk K m (b + 100)) (MOk K m b) (.Call (.Name "_law_any_steps" p0) [.Name xm mp, e] [] pos) (fun d => ∃ os : List Stp, d = .tuple (os.map Stp.d) ∧ 1 ≤ os.length ∧ os.length ≤ 8 ∧ ∀ o ∈ os, StpOk os.length o) := by
  refine ei_call j F (f_law_any_steps T) hj (xa_d h xa_nil he2) si_ok (fun vs H1 u i1 hv Q q => ?_) hk hg hN hv hd hcd (by decide) he hpl
  obtain ⟨v, rfl, hv1⟩ := vxs1 hv
  exact ⟨m, v, b, rfl, hv1, i1, fun v' os H' u' i' h' h1 h8 hos => q v' _ H' u' i' h' ⟨os, rfl, h1, h8, hos⟩⟩
/-- any_others(m) -/
theorem ei_anyOthers {m : Md} {p0 mp : Pos} {xm : Str} (T : Txt w K mg) (j : Nat) (b : Nat) (F : Fm P w K mg base k Y) (hj : σ[j]? = some (some (.ref m.p))) (hk : 2 ≤ k := by decide) (hg : ∀ i, Gl (Y i) "_law_any_others" := by intro _; rfl)
    (hN : ∀ i, (Y i).N[j]? = some xm := by intro _; rfl) (hv : ∀ i, Vis (Y i).env.scope xm := by intro _; first | exact Or.inl rfl | exact Or.inr (Or.inl rfl) | exact Or.inr (Or.inr rfl)) (hd : (xm == ("__debug__" : Str)) = false := by decide) (hcd : (xm == ("__classdict__" : Str)) = false := by decide)
    (he : ∀ i, starEach [.Name xm mp] (Y i).env = (false, eval (.Name xm mp) (Y i).env) :: starEach [] (Y i).env := by intro _; rfl) (hpl : ∀ i, (backTo pos (starEach [] (Y i).env)).any (·.1) = false := by intro _; rfl) :
    EI Y K σ H (MOk K m (b + 3)) (MOk K m b) (.Call (.Name "_law_any_others" p0) [.Name xm mp] [] pos) (fun d => ∃ ot : List Str, d = .tuple (ot.map .str) ∧ OthOk ot) := by
  refine ei_call j F (f_law_any_others T) hj (ys := []) xa_nil si_ok (fun vs H1 u i1 hv Q q => ?_) hk hg hN hv hd hcd (by decide) he hpl
  cases hv
  exact ⟨m, b, rfl, i1, fun v' ot H' u' i' h' ho => q v' _ H' u' i' h' ⟨ot, rfl, ho⟩⟩
/-- any_state(m, steps) -/
theorem ei_anyState {m : Md} {p0 mp : Pos} {xm : Str} {os : List Stp} (T : Txt w K mg) (j : Nat) (b : Nat) (F : Fm P w K mg base k Y) (hj : σ[j]? = some (some (.ref m.p))) (h : DE Y K σ H e (.tuple (os.map Stp.d))) (h1 : 1 ≤ os.length) (h8 : os.length ≤ 8) (hok : ∀ o ∈ os, ConOk o) (hk : 4 ≤ k := by decide) (hg : ∀ i, Gl (Y i) "_law_any_state" := by intro _; rfl)
    (hN : ∀ i, (Y i).N[j]? = some xm := by intro _; rfl) (hv : ∀ i, Vis (Y i).env.scope xm := by intro _; first | exact Or.inl rfl | exact Or.inr (Or.inl rfl) | exact Or.inr (Or.inr rfl)) (hd : (xm == ("__debug__" : Str)) = false := by decide) (hcd : (xm == ("__classdict__" : Str)) = false := by decide)
    (he : ∀ i, starEach [.Name xm mp, e] (Y i).env = (false, eval (.Name xm mp) (Y i).env) :: starEach [e] (Y i).env := by intro _; rfl) (he2 : ∀ i, starEach [e] (Y i).env = (false, eval e (Y i).env) :: starEach [] (Y i).env := by intro _; rfl) (hpl : ∀ i, (backTo pos (starEach [e] (Y i).env)).any (·.1) = false := by intro _; rfl) :
    EI Y K σ H (MOk K m (b + 20)) (MOk K m b) (.Call (.Name "_law_any_state" p0) [.Name xm mp, e] [] pos) (fun d => ∃ s : StD, d = s.d ∧ StaOk (os.map Stp.d) s) := by
  refine ei_call j F (f_law_any_state T) hj (xa_d h xa_nil he2) si_ok (fun vs H1 u i1 hv Q q => ?_) hk hg hN hv hd hcd (by decide) he hpl
  obtain ⟨v, rfl, hv1⟩ := vxs1 hv
  exact ⟨m, v, os, b, rfl, hv1, h1, h8, hok, i1, fun v' s H' u' i' h' hs => q v' _ H' u' i' h' ⟨s, rfl, hs⟩⟩
end
end PK
namespace PK
open L2 PySem PySem.Spec PyProof.Rows
section
variable {ι : Type} {Y : ι → Cx} {P : Program} {w : World} {K : PySem.W.Frag} {mg : Str → Option Value} {base : Heap} {k : Nat} {σ : L2.St} {H H' : Hp} {a b c e elt src : Expr} {pos p p2 cp : Pos} {x : Str} {scope : Scope} {ds : List PyData} {t : PyData}
theorem dt_ne_false {s : Str} {b1 : Bool} (h : DT Y σ H e b1) (q : b1 = !decide (s = s)) : DT Y σ H e false := by
  rw [decide_eq_true (rfl : s = s)] at q
  subst q
  exact h
/-- [elt for x in a list if c] -/
theorem de_lcLf {pos' : Pos} (j : Nat) (f : PyData → PyData) (p : PyData → Bool) (F : Fm P w K mg base k Y) (hs : DE Y K σ H src (.list ds)) (ht : ∀ (d : PyData) (v : V) (H1 : Hp), Up H H1 → d ∈ ds → Dp K H1 v d → DT (blkY Y scope) ((wipe σ [j]).set j (some v)) H1 c (p d))
    (he : ∀ (d : PyData) (v : V) (H1 : Hp), Up H H1 → d ∈ ds → p d = true → Dp K H1 v d → DE (blkY Y scope) K ((wipe σ [j]).set j (some v)) H1 elt (f d))
    (hno : noLs (ds.map f) = true) (hz : ds.length ≤ 16777216) (ok : ∀ i, BlkOk (Y i).N (Y i).env.scope scope [(x, j)])
    (hi : ∀ q, (blkY Y scope q).N[j]? = some x := by intro _; rfl) (hx : ∀ q, Loc (blkY Y scope q).env.scope x := by intro _; first | exact Or.inl rfl | exact Or.inr rfl) (hf : ∀ q, (blkY Y scope q).fn x = true ∨ (blkY Y scope q).env.scope.names.lookup x = some .local := by intro _; first | exact .inl rfl | exact .inr rfl)
    (hfs : ∀ i x, foldedSetIterable src (Y i).env x = pure x := by intro _ _; rfl) : DE Y K σ H (.ListComp elt [⟨.Name x pos', src, [c], 0⟩] scope pos) (.list ((ds.filter p).map f)) := by
  have gd : ∀ i, i < ds.length → ds[i]? = some (ds.getD i .none) := fun i h => by
    rw [List.getD_eq_getElem?_getD, List.getElem?_eq_getElem h] <;> rfl
  have q := de_lc (own := [(x, j)]) (js := [j]) (fs := fun i => [ds.getD i .none]) (rs := ds.map f) (bs := ds.map p) (pos := pos) (elt := elt) (scope := scope) [c] F (se_lst F hs) (tb_name (pos := pos') j (F.blk scope) hi hx hf) rfl (fun i hi => rfl) (by simp) (by simp) hno hz ok (.inr ⟨c, rfl⟩)
    (fun i vs H1 b0 u hi e2 hl hd => .inr ⟨c, rfl, by
      obtain ⟨v, rfl, hv⟩ := dpa1 hd
      rw [List.getElem?_map, gd i hi] at e2
      rw [← Option.some.inj e2]
      exact ht _ v H1 u (List.mem_of_getElem? (gd i hi)) hv⟩) (fun i r vs H1 u hi er eb hl hd => by
      obtain ⟨v, rfl, hv⟩ := dpa1 hd
      rw [List.getElem?_map, gd i hi] at er eb
      rw [← Option.some.inj er]
      exact he _ v H1 u (List.mem_of_getElem? (gd i hi)) (Option.some.inj eb) hv) hfs
  rw [keepL_map] at q
  exact q
/-- [elt for x in range(2)] -/
theorem de_twice {pos' : Pos} {kj : Nat} (j : Nat) (F : Fm P w K mg base k Y) (g : mg "range" = none) (he : ∀ (v : V) (H1 : Hp), Up H H1 → DE (blkY Y scope) K ((wipe σ [j]).set j (some v)) H1 elt t) (hno : noL t = true) (ok : ∀ i, BlkOk (Y i).N (Y i).env.scope scope [(x, j)])
    (hi : ∀ q, (blkY Y scope q).N[j]? = some x := by intro _; rfl) (hx : ∀ q, Loc (blkY Y scope q).env.scope x := by intro _; first | exact Or.inl rfl | exact Or.inr rfl) (hf : ∀ q, (blkY Y scope q).fn x = true ∨ (blkY Y scope q).env.scope.names.lookup x = some .local := by intro _; first | exact .inl rfl | exact .inr rfl)
    (hg : ∀ i, Gl (Y i) "range" := by intro _; rfl) (hst : ∀ i, starEach [.Constant (.int 2) kj cp] (Y i).env = [(false, eval (.Constant (.int 2) kj cp) (Y i).env)] := by intro _; rfl)
    (hfs : ∀ i x, foldedSetIterable (.Call (.Name "range" p) [.Constant (.int 2) kj cp] [] p2) (Y i).env x = pure x := by intro _ _; rfl) :
    DE Y K σ H (.ListComp elt [⟨.Name x pos', .Call (.Name "range" p) [.Constant (.int 2) kj cp] [] p2, [], 0⟩] scope pos) (.list [t, t]) := by
  have q := de_lc (own := [(x, j)]) (js := [j]) (n := 2) (fs := fun i => [.int (i : Nat)]) (rs := [t, t]) (bs := [true, true]) (pos := pos) (elt := elt) (scope := scope) [] F (se_range (p := p) (pos := p2) F g (de_int (i := 2) (j := kj) (pos := cp)) (by decide) (by decide) hg hst) (tb_name (pos := pos') j (F.blk scope) hi hx hf) rfl (fun i hi => rfl) rfl rfl (by
      unfold noLs noLs noLs
      rw [hno] <;> rfl) (by decide) ok (.inl rfl)
    (fun i vs H1 b0 u hi e2 hl hd => .inl ⟨rfl, by
      have := List.mem_of_getElem? e2
      simpa using this⟩) (fun i r vs H1 u hi er eb hl hd => by
      obtain ⟨v, rfl, hv⟩ := dpa1 hd
      have := List.mem_of_getElem? er
      have e : r = t := by simpa using this
      rw [e]
      exact he v H1 u) hfs
  exact q
end
end PK
namespace PK
open L2 PySem PySem.Spec PyProof.Rows
abbrev lawN : List Str := ["_law_script", "_law_events", "_law_k", "_law_turning", "_law_far", "_law_m", "_law_turn", "_law_steps", "_law_others", "_law_one", "_law_net", "_law_state", "_law_some", "_law_event", "_law_due", "_law_twice"]
abbrev lawB : List Stmt := defBody s_law
abbrev lawY (P : Program) (w : World) (K : PySem.W.Frag) (mg : Str → Option Value) (base : Heap) (cdv : Value) (A : Around) (outer : List Env) (s : Shared) (H : Hp) (E : XK) : Unit → Cx := bodyY P w K mg base lawN "law" (defScope s_law) (He.ga K "law") cdv A outer s H E
theorem law_blk {X : Cx} {y : Str} {j : Nat} (hN : X.N = lawN) (hs : X.env.scope = defScope s_law) (h : BlkOk lawN (defScope s_law) (defScope s_law) [(y, j)]) : True := trivial
theorem evL_sub {o : Stp} {s : StD} {ot : List Str} {n : Str} : ∀ e ∈ evL o s ot n, e ∈ evs := fun e h => (List.mem_filter.mp h).1
theorem evL_len {o : Stp} {s : StD} {ot : List Str} {n : Str} : (evL o s ot n).length ≤ 8 := List.length_filter_le _ _
theorem noLs_str : ∀ (zs : List Str), noLs (zs.map PyData.str) = true
  | [] => rfl
  | z :: zs => by
    show noLs (PyData.str z :: zs.map PyData.str) = true
    unfold noLs
    rw [noLs_str zs] <;> rfl
theorem noL_std (s : StD) : noL s.d = true := by
  obtain ⟨srv, num, cp, kn, ow, dn, lt⟩ := s
  rcases cp with _ | ⟨a, b, c, d⟩ <;> rcases lt with _ | ⟨n, _ | ⟨a, b, c, d⟩, m⟩ <;> rfl
section
variable {P : Program} {w : World} {K : PySem.W.Frag} {mg : Str → Option Value} {base : Heap} (T : Txt w K mg)
include T
theorem law_main {cdv : Value} {A : Around} {outer : List Env} {s_ : Shared} {H0 : Hp} {E : XK} {D : Ends} {H : Hp} {v0_ v1_ : V} {ns : List Int} (F : Fm P w K mg base 12 (lawY P w K mg base cdv A outer s_ H0 E)) (G : ∀ i, (lawY P w K mg base cdv A outer s_ H0 E i).A.guards = some [])
    (h0 : Dp K H v0_ (.list (ns.map .int))) (hl : ns.length ≤ 63) (h1 : Dp K H v1_ (.list (evs.map .str)))
    (hk : ∀ (c2 c5 c6 c7 c8 c9 c10 c11 c12 c13 c14 c15 : Option V) H', Up H H' → DSs (lawY P w K mg base cdv A outer s_ H0 E) D [some v0_, some v1_, c2, none, none, c5, c6, c7, c8, c9, c10, c11, c12, c13, c14, c15] H' (lawB.drop 2)) :
    DSs (lawY P w K mg base cdv A outer s_ H0 E) D [some v0_, some v1_, none, none, none, none, none, none, none, none, none, none, none, none, none, none] H (lawB.drop 1) := by
  have hlen : (ns.map PyData.int).length ≤ 63 := by rw [List.length_map]; exact hl
  refine ds_for F (se_range F (n_range T) (de_add de_int (de_min2 F (n_min T) (de_len F (n_len T) (de_v 0 h0) (.inr rfl)) de_int)) (by split <;> omega) (by split <;> omega)) (tb_name 2 F) (fs := fun i => [.int (i : Nat)]) (fun i hi => rfl) fun Hl el => ?_
  refine ⟨fun i σ' H' => ∃ c2 c5 c6 c7 c8 c9 c10 c11 c12 c13 c14 c15, Up Hl H' ∧ σ' = [some v0_, some v1_, c2, none, none, c5, c6, c7, c8, c9, c10, c11, c12, c13, c14, c15], ⟨none, none, none, none, none, none, none, none, none, none, none, none, Up.refl _, rfl⟩, fun i σ' H' h => by
    obtain ⟨_, _, _, _, _, _, _, _, _, _, _, _, h, _⟩ := h
    exact h, fun i σ' H' H'' vs hi h e2 hvl hd => ?_, fun σ' H' h => ?_⟩
  · obtain ⟨c2, c5, c6, c7, c8, c9, c10, c11, c12, c13, c14, c15, u1, rfl⟩ := h
    obtain ⟨v2_, rfl, h2⟩ := dpa1 hd
    have hi7 : (i : Int) ≤ 7 := by
      split at hi <;> omega
    have uA : Up Hl H'' := u1.trans (up_of e2)
    replace h0 := dp_up ((up_of el).trans uA) _ _ h0
    replace h1 := dp_up ((up_of el).trans uA) _ _ h1
    show DSs _ _ [some v0_, some v1_, some v2_, none, none, c5, c6, c7, c8, c9, c10, c11, c12, c13, c14, c15] _ _
    refine ds_begun T 5 F (de_v 0 h0) (de_v 2 h2) (by omega) hi7 hl fun m H3 u3 i3 => ?_
    replace h1 := dp_up u3 _ _ h1
    show DSs _ _ [some v0_, some v1_, some v2_, none, none, some (.ref m.p), c6, c7, c8, c9, c10, c11, c12, c13, c14, c15] _ _
    refine dsi_unp2 (I := MOk K m (503 + 100)) (jx := 7) (jy := 8) F si_ok (ei_anySteps T 5 503 F rfl de_int) (ei_anyOthers T 5 500 F rfl) (i3.le (by decide)) (gn_cons F 7 (gn_cons F 8 gn_nil)) fun v7_ v8_ d7 d8 H4 u4 i4 h7 hd7 h8 hd8 => ?_
    obtain ⟨os, rfl, hs1, hs8, hos⟩ := hd7
    obtain ⟨ot, rfl, hot⟩ := hd8
    replace h1 := dp_up u4 _ _ h1
    show DSs _ _ [some v0_, some v1_, some v2_, none, none, some (.ref m.p), c6, some v7_, some v8_, c9, c10, c11, c12, c13, c14, c15] _ _
    refine dsi_unpX (jx := 9) (jy := 10) F si_ok si_ok (xe_script T F (de_v 7 h7) (.inl rfl) hs1 hs8 hos) (ei_of T 5 499 F rfl (de_lst (K := K) (xa_d de_str (xa_d de_str (xa_d de_str (xa_d de_str (xa_d de_str (xa_d de_str xa_nil))))))) (by simp [unD]) (by simp [unD])) i4 (gn_cons F 9 (gn_cons F 10 gn_nil)) fun v9_ v10_ d10 H5 u5 i5 h9 h10 hd10 => ?_
    have hnet : ∃ n, d10 = .str n ∧ NetOk n := by
      have hd10 : d10 ∈ ([.str "sure", .str "lost", .str "late", .str "again", .str "late", .str "again"] : List PyData) := hd10
      simp only [List.mem_cons, List.not_mem_nil, or_false] at hd10
      unfold NetOk
      rcases hd10 with rfl | rfl | rfl | rfl | rfl | rfl
      · exact ⟨_, rfl, .inl rfl⟩
      · exact ⟨_, rfl, .inr (.inl rfl)⟩
      · exact ⟨_, rfl, .inr (.inr (.inl rfl))⟩
      · exact ⟨_, rfl, .inr (.inr (.inr rfl))⟩
      · exact ⟨_, rfl, .inr (.inr (.inl rfl))⟩
      · exact ⟨_, rfl, .inr (.inr (.inr rfl))⟩
    obtain ⟨n, rfl, hnet⟩ := hnet
    replace h1 := dp_up u5 _ _ h1
    replace h7 := dp_up u5 _ _ h7
    replace h8 := dp_up u5 _ _ h8
    show DSs _ _ [some v0_, some v1_, some v2_, none, none, some (.ref m.p), c6, some v7_, some v8_, some v9_, some v10_, c11, c12, c13, c14, c15] _ _
    have lss : (os.map Stp.d).length ≤ 8 := by rw [List.length_map]; exact hs8
    refine ds_for F (se_range F (n_range T) (de_int (i := 20)) (by decide) (by decide)) (tb_name 6 F) (fs := fun i => [.int (i : Nat)]) (fun i hi => rfl) fun Hm em => ?_
    replace h1 := dp_up (up_of em) _ _ h1
    replace h7 := dp_up (up_of em) _ _ h7
    replace h8 := dp_up (up_of em) _ _ h8
    replace h9 := vx_up (up_of em) h9
    replace h10 := dp_up (up_of em) _ _ h10
    refine ⟨fun i σ' H' => ∃ c6 c11 c12 c13 c14 c15, Up Hm H' ∧ MOk K m (20 * (20 - i)) H' ∧ σ' = [some v0_, some v1_, some v2_, none, none, some (.ref m.p), c6, some v7_, some v8_, some v9_, some v10_, c11, c12, c13, c14, c15], ⟨c6, c11, c12, c13, c14, c15, Up.refl _, (si_ok _ _ em i5).le (by decide), rfl⟩, fun i σ' H' h => by
      obtain ⟨_, _, _, _, _, _, h, _⟩ := h
      exact h, fun i σ' H' H'' vs hi h e2 hvl hd => ?_, fun σ' H' h => ?_⟩
    · obtain ⟨c6, c11, c12, c13, c14, c15, u6, i6, rfl⟩ := h
      obtain ⟨v6_, rfl, h6⟩ := dpa1 hd
      have uB : Up Hm H'' := u6.trans (up_of e2)
      replace h1 := dp_up uB _ _ h1
      replace h7 := dp_up uB _ _ h7
      replace h8 := dp_up uB _ _ h8
      replace h9 := vx_up uB h9
      replace h10 := dp_up uB _ _ h10
      have hi20 : i < 20 := hi
      have e20 : 20 * (20 - i) = 20 * (20 - (i + 1)) + 20 := by omega
      rw [e20] at i6
      show DSs _ _ [some v0_, some v1_, some v2_, none, none, some (.ref m.p), some v6_, some v7_, some v8_, some v9_, some v10_, c11, c12, c13, c14, c15] _ _
      refine dsi_set 11 (ei_anyState T 5 (20 * (20 - (i + 1))) F rfl (de_v 7 h7) hs1 hs8 fun o ho => ConOk.of (hos o ho)) (si_ok _ _ e2 i6) (fun v11_ d11 H7 u7 i7 h11 hd11 => ?_) F
      obtain ⟨s, rfl, hs⟩ := hd11
      obtain ⟨o, ho, hat⟩ := at_of hs.num hos
      obtain ⟨o2, hlt⟩ := late_of hs
      have hsafe := safe_of hs
      have htame := tame_of hs lss
      replace h1 := dp_up u7 _ _ h1
      replace h7 := dp_up u7 _ _ h7
      replace h8 := dp_up u7 _ _ h8
      replace h9 := vx_up u7 h9
      replace h10 := dp_up u7 _ _ h10
      show DSs _ _ [some v0_, some v1_, some v2_, none, none, some (.ref m.p), some v6_, some v7_, some v8_, some v9_, some v10_, some v11_, c12, c13, c14, c15] _ _
      refine ds_set (F := F) 12 (DE.is (de_tupleOf F (n_tuple T) (de_lcLf 13 id (canP o s ot n) F (de_v 1 h1) (fun d v H1 u hd hv => by
        obtain ⟨e, rfl, hev⟩ := evs_ok hd
        exact dt_e (de_f (F.blk _) (f_law_may T) (xa_d (de_v 7 (dp_up u _ _ h7)) (xa_d (de_v 11 (dp_up u _ _ h11)) (xa_d (de_v 13 hv) (xa_d (de_v 8 (dp_up u _ _ h8)) (xa_d (de_v 10 (dp_up u _ _ h10)) xa_nil))))) ⟨_, _, o, _, ot, _, rfl, ⟨hev, hat, hsafe.cp⟩, rfl⟩)) (fun d v H1 u hd _ hv => de_v 13 hv) (by rw [List.map_id]; exact noLs_str _) (by decide) (by intro _; show BlkOk lawN (defScope s_law) _ _; exact ⟨rfl, by decide +kernel, by decide +kernel, by decide +kernel, by decide +kernel⟩)) (.inr rfl)) (congrArg PyData.tuple (evL_eq o s ot n))) fun v12_ H8 e8 h12 => ?_
      replace h1 := dp_up (up_of e8) _ _ h1
      replace h7 := dp_up (up_of e8) _ _ h7
      replace h8 := dp_up (up_of e8) _ _ h8
      replace h9 := vx_up (up_of e8) h9
      replace h10 := dp_up (up_of e8) _ _ h10
      replace h11 := dp_up (up_of e8) _ _ h11
      show DSs _ _ [some v0_, some v1_, some v2_, none, none, some (.ref m.p), some v6_, some v7_, some v8_, some v9_, some v10_, some v11_, some v12_, c13, c14, c15] _ _
      have okE : Ok13 (.tuple ((evL o s ot n).map .str)) 1 1000 := by
        have q := ok_tup (okl_evs (p := 0) (evL o s ot n) evL_sub)
        exact ⟨q.lay, q.dep, q.shw, q.lvs, Nat.le_trans q.blk (by have := evL_len (o := o) (s := s) (ot := ot) (n := n); omega)⟩
      obtain ⟨r1, r2, r3⟩ := two_ok okE (by decide) (by decide)
      refine ds_guard (dt_ne_false (dt_cmp (de_reprD F G (n_repr T) (de_twice 15 F (n_range T) (fun v H1 u => de_f (F.blk _) (f_events_of T) (xa_x (xe_v 9 (vx_up u h9)) (xa_d (de_v 11 (dp_up u _ _ h11)) (xa_d (de_v 8 (dp_up u _ _ h8)) (xa_d (de_v 10 (dp_up u _ _ h10)) xa_nil)))) ⟨_, _, o, _, _, rfl, ⟨hs, hat, hot, hnet⟩, rfl⟩) (by unfold noL; exact noLs_str _) (by intro _; show BlkOk lawN (defScope s_law) _ _; exact ⟨rfl, by decide +kernel, by decide +kernel, by decide +kernel, by decide +kernel⟩)) (.inl rfl) r1 r2 r3) (de_reprD F G (n_repr T) (de_lst (K := K) (xa_d (de_v 12 h12) (xa_d (de_v 12 h12) xa_nil))) (.inl rfl) r1 r2 r3) cm_nes) rfl) fun H9 e9 => ?_
      replace h1 := dp_up (up_of e9) _ _ h1
      replace h7 := dp_up (up_of e9) _ _ h7
      replace h8 := dp_up (up_of e9) _ _ h8
      replace h9 := vx_up (up_of e9) h9
      replace h10 := dp_up (up_of e9) _ _ h10
      replace h11 := dp_up (up_of e9) _ _ h11
      replace h12 := dp_up (up_of e9) _ _ h12
      refine ds_guard (DT.is (dt_not (dt_e (de_f F (f_law_faults_right T) (xa_x (xe_v 9 h9) (xa_d (de_v 7 h7) (xa_d (de_v 11 h11) (xa_d (de_v 1 h1) xa_nil)))) ⟨_, _, o, o2, rfl, ⟨hs, hat, hlt, hsafe⟩, rfl⟩))) rfl) fun H10 e10 => ?_
      replace h7 := dp_up (up_of e10) _ _ h7
      replace h8 := dp_up (up_of e10) _ _ h8
      replace h9 := vx_up (up_of e10) h9
      replace h10 := dp_up (up_of e10) _ _ h10
      replace h11 := dp_up (up_of e10) _ _ h11
      replace h12 := dp_up (up_of e10) _ _ h12
      refine ds_for F (se_tup F (de_v 12 h12)) (tb_name 13 F) (fs := fun i => [((evL o s ot n).map PyData.str).getD i .none]) (fun i hi => rfl) fun Hn en => ?_
      replace h7 := dp_up (up_of en) _ _ h7
      replace h8 := dp_up (up_of en) _ _ h8
      replace h9 := vx_up (up_of en) h9
      replace h10 := dp_up (up_of en) _ _ h10
      replace h11 := dp_up (up_of en) _ _ h11
      refine ⟨fun i σ' H' => ∃ c13 c14 c15, Same Hn H' ∧ σ' = [some v0_, some v1_, some v2_, none, none, some (.ref m.p), some v6_, some v7_, some v8_, some v9_, some v10_, some v11_, some v12_, c13, c14, c15], ⟨c13, c14, c15, Same.refl _, rfl⟩, fun i σ' H' h => by
        obtain ⟨_, _, _, h, _⟩ := h
        exact up_of h, fun i σ' H' H'' vs hi h e2 hvl hd => ?_, fun σ' H' h => ?_⟩
      · obtain ⟨c13, c14, c15, e11, rfl⟩ := h
        obtain ⟨v13_, rfl, h13⟩ := dpa1 hd
        have he13 : ∃ e ∈ evL o s ot n, ((evL o s ot n).map PyData.str).getD i .none = .str e := by
          have hi' : i < (evL o s ot n).length := by rwa [List.length_map] at hi
          exact ⟨(evL o s ot n)[i], List.getElem_mem hi', by simp [List.getD_eq_getElem?_getD, hi']⟩
        obtain ⟨e, hemem, ee⟩ := he13
        rw [ee] at h13
        obtain ⟨hev, hcan⟩ := evL_in o s ot n e hemem
        have eC : Same Hn H'' := e11.trans e2
        replace h7 := dp_up (up_of eC) _ _ h7
        replace h8 := dp_up (up_of eC) _ _ h8
        replace h9 := vx_up (up_of eC) h9
        replace h10 := dp_up (up_of eC) _ _ h10
        replace h11 := dp_up (up_of eC) _ _ h11
        show DSs _ _ [some v0_, some v1_, some v2_, none, none, some (.ref m.p), some v6_, some v7_, some v8_, some v9_, some v10_, some v11_, some v12_, some v13_, c14, c15] _ _
        refine ds_set (F := F) 14 (de_f F (f_law_behind T) (xa_d (de_v 7 h7) (xa_d (de_v 11 h11) (xa_d (de_v 13 h13) (xa_d (de_v 10 h10) xa_nil)))) ⟨_, _, o, o2, _, ot, _, rfl, ⟨hev, hat, hlt, hcan, hnet, hsafe⟩, rfl⟩) fun v14_ H12 e12 h14 => ?_
        replace h8 := dp_up (up_of e12) _ _ h8
        replace h9 := vx_up (up_of e12) h9
        replace h10 := dp_up (up_of e12) _ _ h10
        replace h11 := dp_up (up_of e12) _ _ h11
        replace h13 := dp_up (up_of e12) _ _ h13
        show DSs _ _ [some v0_, some v1_, some v2_, none, none, some (.ref m.p), some v6_, some v7_, some v8_, some v9_, some v10_, some v11_, some v12_, some v13_, some v14_, c15] _ _
        have okS := (tame_stepped (o := o) (o2 := o2) (e := e) (n := n) htame (hos o ho) (by omega)).ok
        obtain ⟨q1, q2, q3⟩ := two_ok okS (by decide) (by decide)
        refine ds_guard (dt_ne_false (dt_cmp (de_reprD F G (n_repr T) (de_twice 15 F (n_range T) (fun v H1 u => de_f (F.blk _) (f_step T) (xa_x (xe_v 9 (vx_up u h9)) (xa_d (de_v 11 (dp_up u _ _ h11)) (xa_d (de_v 13 (dp_up u _ _ h13)) (xa_d (de_v 8 (dp_up u _ _ h8)) (xa_d (de_v 10 (dp_up u _ _ h10)) xa_nil))))) ⟨_, _, o, o2, _, _, _, rfl, ⟨hs, hat, hot, hnet, hlt, hev, hcan⟩, rfl⟩) (noL_std _) (by intro _; show BlkOk lawN (defScope s_law) _ _; exact ⟨rfl, by decide +kernel, by decide +kernel, by decide +kernel, by decide +kernel⟩)) (.inl rfl) q1 q2 q3) (de_reprD F G (n_repr T) (de_lst (K := K) (xa_d (de_v 14 h14) (xa_d (de_v 14 h14) xa_nil))) (.inl rfl) q1 q2 q3) cm_nes) rfl) fun H13 e13 => ?_
        exact ds_nil ⟨_, _, _, (eC.trans e12).trans e13, rfl⟩
      · obtain ⟨c13, c14, c15, e11, rfl⟩ := h
        refine ds_nil ⟨_, _, _, _, _, _, uB.trans (u7.trans (up_of ((((e8.trans e9).trans e10).trans en).trans e11))), si_ok _ _ ((((e8.trans e9).trans e10).trans en).trans e11) i7, rfl⟩
    · obtain ⟨c6, c11, c12, c13, c14, c15, u6, i6, rfl⟩ := h
      exact ds_nil ⟨_, _, _, _, _, _, _, _, _, _, _, _, uA.trans (u3.trans (u4.trans (u5.trans ((up_of em).trans u6)))), rfl⟩
  · obtain ⟨c2, c5, c6, c7, c8, c9, c10, c11, c12, c13, c14, c15, u1, rfl⟩ := h
    exact hk _ _ _ _ _ _ _ _ _ _ _ _ H' ((up_of el).trans u1)
end
end PK
namespace PK
open L2 PySem PySem.Spec PyProof.Rows
/-! ## BadNumber(value) -/
/-- what is known of the class at C and its __init__ at f -/
structure BadC (P : Program) (K : PySem.W.Frag) (C f : Addr) : Prop where
  fn : ∃ (oc : Value) (od : Option Addr) (kV doc pm : Value) (an : Option Addr) (cda : Addr) (ct : Value) (osl : Array (Option Value)) (cc : Addr) (cl : Value) (cld : Option Addr) (csl : Array (Option Value)) (ccl : Value) (cdd : Option Addr) (vs : Array Value) (ccs : Array (Option Value)) (file : Str) (tf : Tok),
    K.lookup f = some ⟨oc, od, .func (PySem.W.ksFn "__init__" "BadNumber.__init__" (defArgs sC_BadNumber_init) (defBody sC_BadNumber_init) (defScope sC_BadNumber_init) .none kV doc pm an (.ref cda) ct cc), osl⟩ ∧ PySem.W.codeIn K (.ref cda) "BadNumber.__init__" = true ∧
    K.lookup cc = some ⟨cl, cld, .cell (some (.ref C)), csl⟩ ∧ K.lookup cda = some ⟨ccl, cdd, .fields vs, ccs⟩ ∧ vs[2]? = some (.str file tf) ∧ ((P.main.file : Str) == file) = true
  oex : OexC K C
  noV : PySem.W.findIn K (.ref C) "value" = some none
  clsD : ∃ cd, PySem.W.clsIn K C = some cd
  self : PySem.W.mroIn K C (.ref C) = some true
  sup : PySem.W.ks_superIn K C C "__init__" = some (some (.builtin "ValueError.__init__"))
  third : PySem.W.nsIn K cStatics "thirdparty.any" = some none
  subV : PySem.W.subIn K (.ref C) (.type "ValueError") = some true
  top : (P.main.scope.names.lookup ("super" : Str)).isSome = false
def spBN (K : PySem.W.Frag) (C : Addr) : Sp := fun vs H Q _ => ∃ (a : Addr) (v : V), vs = [.ref a, v] ∧ H a = some (exo a C none) ∧ ∀ dx, H dx = none → dx ≠ a → Q .non (upd (upd H dx (exd dx [("value", v)])) a (exo a C (some dx)))
section
variable {prog : Program} {w : World} {A : Around} {E : Value → Shared → Prop} {h : Heap} {g : Array GenState} {d : Drawn} {t : Nat} {os : OsState}
/-- the method-wrapper of ValueError.__init__, called -/
theorem mw_call {nm q : Str} {C N x u t0 : Addr} {bs bm : List Value} {hdct : Bool} {sn : List Str} {sub : List Value} {ab : Bool} {col : Option Bool} {dd : Option Addr} {k0 k1 k2 k3 k5 : Option Value} {v : Value} {Q : Value → Shared → Prop}
    (hC : h.get? C = some (excClassObj nm q C N bs bm hdct sn sub ab col dd k0 k1 k2 k3 k5 "ValueError.__new__")) (he : h.get? x = some (PySem.HandSPX.excO C t0)) (hu : h.get? u = some (PySem.W.kxs_mw "ValueError.__init__" x))
    (hq : ∀ h' t1, (∀ b o, b ≠ x → h.get? b = some o → h'.get? b = some o) → h'.get? x = some (PySem.HandSPX.excO C t1) → Q .none ⟨h', g, d, t, os⟩) : wpAny (model prog w) A (call (.ref u) [v]) Q E ⟨h, g, d, t, os⟩ := by
  have FB := F.excBase_ValueError
  have c1 : (Value.type "method-wrapper" == Value.type "method" || Value.type "method-wrapper" == Value.type "builtin_function_or_method" || Value.type "method-wrapper" == Value.type "method-wrapper") = true := by decide
  refine wpAny_call (codeAny_of_tree ?_)
  show wpAny (model prog w) A.in1 (callAny (.ref u) ⟨[v], []⟩) _ _ _
  simp only [callAny]
  refine wpAny_bind (wpAny_load hu ?_)
  simp only [PySem.W.kxs_mw, c1, if_true]
  refine PySem.W.KFB.if_so (by decide) (wpAny_bind (PySem.W.check_bound_init FB.toExcCallFacts hC he rfl ?_))
  refine wpAny_bind (wpAny_pure (wpAny_pure ⟨plainId_quiet FB.init.plain _, codeAny_builtin FB.initEntry ?_⟩))
  exact PySem.W.exc_init_tree (cls := .ref C) (t0 := t0) (dv := none) (c2 := .none) (c3 := .none) (b4 := .bool false) he (by show 1 ≤ sizeLine; decide) fun h' k e' _ => hq h' _ k e'
end
theorem obj_here {P : Program} {w : World} {H : Hp} {h : Heap} {a : Addr} {o : HO} (x : ObjOk P w H h a o) : ∃ ob, h.get? a = some ob := by
  cases o with
  | lst xs => obtain ⟨_, _, _, _, e⟩ := x; exact ⟨_, e⟩
  | tup xs => obtain ⟨_, _, _, p⟩ := x; obtain ⟨_, e, _⟩ := p; exact ⟨_, e⟩
  | dK kvs => obtain ⟨_, _, _, _, o, _, _, e, _⟩ := x; exact ⟨_, e⟩
  | dT kvs => obtain ⟨_, _, _, _, o, _, _, e, _⟩ := x; exact ⟨_, e⟩
  | set S n => obtain ⟨o, _, _, _, e, _⟩ := x; exact ⟨_, e⟩
  | ins C dx fs => obtain ⟨_, _, _, e, _⟩ := x; exact ⟨_, e⟩
  | own y => obtain ⟨_, e⟩ := x; exact ⟨_, e⟩
  | xd fs => obtain ⟨_, ⟨_, _, _, e, _⟩, _⟩ := x; exact ⟨_, e⟩
  | rng lo hi => obtain ⟨_, _, _, e⟩ := x; exact ⟨_, e⟩
  | frz ob u => obtain ⟨e, _⟩ := x; exact ⟨_, e⟩
  | tbl ps => exact ⟨_, show h.get? a = some _ from x⟩
  | met f y => exact ⟨_, show h.get? a = some _ from x⟩
  | ext φ => exact x.2.1
theorem exo_get {P : Program} {w : World} {H : Hp} {h : Heap} {e C : Addr} (hok : HOk P w H h) (he : H e = some (exo e C none)) : ∃ t1, h.get? e = some (PySem.HandSPX.excO C t1) := exo_at hok he
section
variable {P : Program} {w : World} {K : PySem.W.Frag} {mg : Str → Option Value} {base : Heap} {C f : Addr}
theorem bn_init (B : BadC P K C f) (hm : mg "super" = none) : ∃ fd, FnOk P w K mg base CX0 1 f fd ["self", "value"] (spBN K C) ∧ Binds K fd ["self", "value"] [] := by
  obtain ⟨oc, od, kV, doc, pm, an, cda, ct, osl, cc, cl, cld, csl, ccl, cdd, vs_, ccs, file, tf, lk, hcd, hcell, hcode, hfl, hfile⟩ := B.fn
  refine ⟨PySem.W.ksFn "__init__" "BadNumber.__init__" (defArgs sC_BadNumber_init) (defBody sC_BadNumber_init) (defScope sC_BadNumber_init) .none kV doc pm an (.ref cda) ct cc, ⟨fun vs H Q E hs => ?_, fun A outer s H args us vs Q E hr e0 hb rv hs => ?_⟩, .all fun us hl => match us, hl with | [_, _], _ => rfl⟩
  · obtain ⟨_, _, rfl, _⟩ := hs
    rfl
  obtain ⟨x, v, rfl, ex, hq⟩ := hs
  obtain ⟨nm, q, N, bs, bm, sn, sub, ab, col, dd, k0, k1, k2, k3, k5, hC, hbm⟩ := B.oex.cls
  obtain ⟨cdC, hcdC⟩ := B.clsD
  cases rv with
  | @cons _ u0 _ us1 r0 rv =>
    cases rv with
    | @cons _ u1 _ us2 r1 rv =>
      cases rv
      obtain rfl : u0 = Value.ref x := r0
      obtain ⟨t1, hx⟩ := exo_get e0.hok ex
      have bk : ∀ b o, base.get? b = some o → s.heap.get? b = some o := fun b o e => (e0.bs b o e).1
      have KX : K.In s.heap := e0.mod.kin.keeps bk
      have lim : s.heap.NoLimit := e0.mod.nolimit.keeps bk
      have Kx : ∀ b o, K.lookup b = some o → b ≠ x := fun b o e z => by
        have q := (e0.bs _ _ (e0.mod.kin _ _ e)).2
        rw [z, ex] at q
        cases q
      obtain ⟨mb, hnb, hbb⟩ := e0.mod.blt
      refine ks_codeAny_call_defAt (body := defBody sC_BadNumber_init) (binds := (["self", "value"] : List Str).zip [Value.ref x, u1]) hr.depth (KX _ _ lk) rfl lim (PySem.W.codeRec_of KX hcd) rfl hb (show ∀ x ∈ (defScope sC_BadNumber_init).names, x.2 ≠ .cell by decide +kernel) (by
        intro y hy
        have hy : y = ((("self" : Str), Value.ref x) : Str × Value) ∨ y = ((("value" : Str), u1) : Str × Value) := by simpa using hy
        rcases hy with rfl | rfl
        · show (defScope sC_BadNumber_init).names.lookup ("self" : Str) = some .local
          decide +kernel
        · show (defScope sC_BadNumber_init).names.lookup ("value" : Str) = some .local
          decide +kernel) (fun h1 hns hk => ?_)
      have neL : ∀ b o, s.heap.get? b = some o → b ≠ s.heap.objs.size := fun b o e => Nat.ne_of_lt (Heap.lt_size e)
      have hx1 := hk _ _ hx
      have K1 : K.In h1 := KX.keeps hk
      obtain ⟨oD, hD1, hD2⟩ : ∃ oD, h1.get? C = some oD ∧ oD.data = .cls cdC := by
        unfold PySem.W.clsIn at hcdC
        split at hcdC
        · rename_i c d cd' sl ho
          cases hcdC
          exact ⟨_, K1 _ _ ho, rfl⟩
        · cases hcdC
      refine ks_wpAt_execs_cons (ks_wpAt_Expr_any (ks_wpAt_MethodCall (ks_wpAt_super_base (by rfl) (by rfl) (by decide) rfl (K1 _ _ lk) rfl (by rfl) rfl (K1 _ _ hcode) rfl hfl hfile B.top ?_)))
      refine PySem.W.ks_loadName_global rfl (by rfl) (PySem.Calls.loadGlobal_builtin (mg := mg) (mb := mb) ((e0.mod.glob.keeps bk).keeps hk) hm ((hnb.keeps bk).keeps hk) ((hbb _ (by decide +kernel)).trans (by decide +kernel : bootBuiltins "super" = some (.type "super"))) ⟨rfl, ?_⟩)
      refine wpAny_loadName_free rfl (by rfl) rfl ⟨_, K1 _ _ hcell, rfl⟩ ?_
      refine wpAny_loadName_local rfl (by rfl) hns (by rfl) ?_
      refine ks_wpAny_isType_cls hD1 hD2 ⟨rfl, ?_⟩
      refine ks_wpAny_call_super hD1 hD2 hx1 rfl (fun c z => by cases z) (PySem.W.looks_mroIn K1 B.self) fun h2 eso k2 => ?_
      have K2 : K.In h2 := K1.keeps k2
      have hx2 := k2 _ _ hx1
      have I2 : PySem.W.InstAt h2 x (PySem.HandSPX.excO C t1) C none := ⟨hx2, rfl, rfl, trivial⟩
      have hm2 := B.sup
      unfold PySem.W.ks_superIn at hm2
      rw [hcdC] at hm2
      refine PySem.W.kxs_getMethod PySem.W.kxs_ValueError eso (PySem.W.looks_opaque K2 B.third) (l₀ := cdC.mro) (fun A Q E s k q => wpAny_bind ((PySem.W.looks_clsIn K2 hcdC) A _ E s k (wpAny_pure q))) rfl K2 hm2 (I2.type.andThen (PySem.W.looks_subIn K2 B.subV)) (PySem.W.ks_ne K2 I2 hcdC) (by decide) ?_
      refine PySem.W.kxs_callWith (i := "ValueError.__init__") (x := x) (by rfl) ?_
      have hu : (h2.push (PySem.W.kxs_mw "ValueError.__init__" x)).get? h2.objs.size = some (PySem.W.kxs_mw "ValueError.__init__" x) := Heap.get?_push_at rfl rfl
      have k3 : ∀ b o, h2.get? b = some o → (h2.push (PySem.W.kxs_mw "ValueError.__init__" x)).get? b = some o := fun b o e => Heap.get?_push_of_some _ e
      refine PySem.Calls.evalArgs_plain ?_
      refine Calls.spliced_cons ?_
      refine Calls.Constant_str (k := 0) (pos := ⟨60,25,60,54⟩) ?_
      refine Calls.spliced_nil ⟨hu, ?_⟩
      refine mw_call (k3 _ _ (K2 _ _ hC)) (k3 _ _ hx2) hu fun h3 t2 k4 hx3 => ?_
      have kA : ∀ b o, b ≠ x → h1.get? b = some o → h3.get? b = some o := fun b o hb e => k4 b o hb (k3 b o (k2 b o e))
      have xL : s.heap.objs.size ≠ x := fun z => neL _ _ hx z.symm
      have hns3 : h3.Ns s.heap.objs.size (fun y => ((["self", "value"] : List Str).zip [Value.ref x, u1]).reverse.lookup y) := hns.at fun o e => kA _ _ xL e
      have K3 : K.In h3 := fun b o e => kA b o (Kx b o e) (K1 b o e)
      refine ks_wpAt_execs_cons (ks_wpAt_Assign_Attr (wpAt_of_wpAny ?_))
      refine wpAny_Name ?_ (by decide)
      refine wpAny_loadName_local rfl (by rfl) hns3 (by rfl) ?_
      refine wpAny_Name ?_ (by decide)
      refine wpAny_loadName_local rfl (by rfl) hns3 (by rfl) ?_
      refine PySem.W.set_plain K3 (ox := PySem.HandSPX.excO C t2) (od := none) ⟨hx3, rfl, rfl, trivial⟩ B.oex.sa ?_
      refine PySem.HandSPX.exc_osa K3 hx3 hcdC ?_ ?_ B.noV (fun h4 tk4 dx k5 dn dne hx4 hn4 => ?_)
      · have e2 : PySem.W.clsIn K C = some { name := nm, bases := bs, mro := .ref C :: bm, ns := N, qualname := q, hasDict := true, slotNames := sn, subclasses := sub, abstract := ab, collection := col, hasDel := false } := by unfold PySem.W.clsIn; rw [hC] <;> rfl
        rw [hcdC] at e2
        cases e2
        exact hbm
      · have e2 : PySem.W.clsIn K C = some { name := nm, bases := bs, mro := .ref C :: bm, ns := N, qualname := q, hasDict := true, slotNames := sn, subclasses := sub, abstract := ab, collection := col, hasDel := false } := by unfold PySem.W.clsIn; rw [hC] <;> rfl
        rw [hcdC] at e2
        cases e2
        rfl
      have h0 : ∀ {b o}, s.heap.get? b = some o → b < h3.objs.size := fun {b o} e => by
        by_cases hb : b = x
        · rw [hb]; exact Heap.lt_size hx3
        · exact Heap.lt_size (kA b o hb (hk _ _ e))
      have nd : ∀ {b : Addr} {o : Obj}, s.heap.get? b = some o → b ≠ dx := fun {b o} q => Nat.ne_of_lt (Nat.lt_of_lt_of_le (h0 q) dn)
      have hnd : H dx = none := by
        cases hz : H dx with
        | none => rfl
        | some o =>
          obtain ⟨_, he⟩ := obj_here (e0.hok dx o hz)
          exact absurd rfl (nd he)
      have na : ∀ {b : Addr}, H b = none → b ≠ x := fun {b} n z => by
        rw [z, ex] at n
        cases n
      have kB : ∀ b o, b ≠ x → s.heap.get? b = some o → h4.get? b = some o := fun b o hb e => k5 b o hb (kA b o hb (hk b o e))
      refine wpAt_of_wpAny (wpAny_pure ?_)
      show CR CX0 outer P w H s Q E _ _
      refine ⟨.non, upd (upd H dx (exd dx [("value", v)])) x (exo x C (some dx)), rfl, e0.bare, {
        keep := fun b o q n _ _ => kB b o (na n) q
        slot := fun b o q n _ _ => ⟨o.slots, kB b o (na n) q⟩
        free := fun b o q n _ => by rw [upd_ne (na n), upd_ne (nd q)]; exact n
        there := fun b o q _ => by
          by_cases hb : b = x
          · exact ⟨_, by rw [hb]; exact hx4⟩
          · exact ⟨o, kB b o hb q⟩
        tups := fun b xs q => by rw [upd_ne (at_ne ex q exo_tup), upd_ne (ne_of_none q hnd)]; exact q
        frzs := fun b o v q => by rw [upd_ne (at_ne ex q exo_frz), upd_ne (ne_of_none q hnd)]; exact q
        tbls := fun b ps q => ⟨#[], by rw [upd_ne (at_ne ex q exo_tbl), upd_ne (ne_of_none q hnd), q]; simp⟩ }, fun b o q => ?_, rfl, hq dx hnd dne⟩
      by_cases hb : b = x
      · subst hb
        rw [upd_same] at q
        cases q
        exact exo_ok hx4
      · rw [upd_ne hb] at q
        by_cases hd : b = dx
        · subst hd
          rw [upd_same] at q
          cases q
          exact exd_ok hn4 (relO_put (fs := []) r1 fun g => True.intro)
        · rw [upd_ne hd] at q
          exact (e0.hok b o q).stay (fun c v hc z => kB c v (by
              rcases hc with hc | hc
              · rw [hc]
                exact hb
              · exact at_ne ex hc exo_own) z)
            (fun c hc => by rw [upd_ne (at_ne ex hc exo_own), upd_ne (ne_of_none hc hnd)]; exact hc) (fun c xs hc => by rw [upd_ne (at_ne ex hc exo_tup), upd_ne (ne_of_none hc hnd)]; exact hc)
end
end PK
namespace PK
open L2 PySem PySem.Spec PyProof.Rows
/-! ## a slice and its class -/
theorem sl_ent : entryFor table "slice.__getattribute__" = some Builtin.«object.__getattribute__» := entryFor_alias (id' := "object.__getattribute__") (by kernel_rfl) (by first | rfl | decide +kernel) (by decide +kernel) (by kernel_rfl)
theorem sl_lk : typeLookup (.type "slice") "__class__" = pure (some (.builtin "object.__class__")) := by
  rw [typeLookup_type, builtinLookup_eq_fast] <;> kernel_rfl
theorem sl_ow : isSubtype (.type "slice") (.type (".".intercalate ("object.__class__".cutAt '.').dropLast)) = pure true := by
  rw [F.owner_object_class, isSubtype_type] <;> kernel_rfl
theorem sl_slot : Slot "slice" "__getattribute__" "slice.__getattribute__" := .of (owner := "slice") (n := "__getattribute__") (by rw [typeLookup_type, builtinLookup_eq_fast] <;> kernel_rfl) (by decide +kernel) (by decide +kernel) (by decide +kernel) (by first | exact .inl (by kernel_rfl) | exact .inr (by kernel_rfl)) (by rw [isSubtype_type] <;> kernel_rfl)
theorem sl_args (a b : Value) : argsOk "slice.__getattribute__" ⟨[a, b], []⟩ := by unfold argsOk; kernel_rfl
section
variable {prog : Program} {w : World} {A : Around} {E : Value → Shared → Prop} {s : Shared} {a : Addr} {o : Obj}
theorem sl_class {Q : Option Value → Shared → Prop} (hx : s.heap.get? a = some o) (hc : o.cls = .type "slice") (hq : Q (some (.type "slice")) { s with toks := s.toks + 1 }) : wpAny (model prog w) A (getAttr? (.ref a) "__class__") Q E s := by
  obtain ⟨h, g, d, t, os⟩ := s
  have hT : ∀ t', (⟨h, g, d, t', os⟩ : Shared).TypeIs (.ref a) "slice" := fun _ => ⟨_, hx, hc⟩
  have T0 := hT t
  have T1 := hT (t + 1)
  have k1 := F.typeOf_object_class
  have k2 := F.slot_gs_get.lookup
  have k3 := F.slot_gs_set.lookup
  have k4 := sl_lk
  have k5 := sl_ow
  have k6 := sl_slot.lookup
  have k7 := sl_slot.bind (.ref a)
  have get : ∀ {A : Around} {R : Result → Shared → Prop} {t' : Nat}, R (.ok (.ret (.type "slice"))) ⟨h, g, d, t', os⟩ → codeAny (model prog w) A (.call (.builtin "getset_descriptor.__get__") ⟨[.builtin "object.__class__", .ref a, .type "slice"], []⟩) R ⟨h, g, d, t', os⟩ := fun {A R t'} q => by
    have T2 := hT t'
    have T5 : (⟨h, g, d, t', os⟩ : Shared).TypeIs (.builtin "object.__class__") "getset_descriptor" := F.typeOf_object_class
    refine codeAny_call_builtin F.slot_gs_get.plain F.entry_gs_get (F.slot_gs_get.check _ _ _ _ _ _ _ _ T5 (F.args_gs_get _ _ _) ?_); repeat (any_goals (first | assumption | wp_step))
    refine ⟨Code.quiet_builtin _ (by decide +kernel), codeAny_builtin F.entry_object_class ?_⟩; repeat (any_goals (first | assumption | wp_step))
  have ent : ∀ {A : Around} {Q : Fin → Shared → Prop} {E : Value → Shared → Prop}, Q (.done (.ret (.type "slice"))) ⟨h, g, d, t + 1, os⟩ → wpAny (model prog w) A (Builtin.«object.__getattribute__» ⟨[.ref a, .str "__class__" t], []⟩) Q E ⟨h, g, d, t + 1, os⟩ := fun {A Q E} q => by
    have T5 : (⟨h, g, d, t + 1, os⟩ : Shared).TypeIs (.builtin "object.__class__") "getset_descriptor" := F.typeOf_object_class
    repeat (any_goals (first | assumption | wp_step))
    refine get ?_; repeat (any_goals (first | assumption | wp_step))
  have cal : ∀ {R : Result → Shared → Prop}, R (.ok (.ret (.type "slice"))) ⟨h, g, d, t + 1, os⟩ → codeAny (model prog w) A (.call (.builtin "slice.__getattribute__") ⟨[.ref a, .str "__class__" t], []⟩) R ⟨h, g, d, t + 1, os⟩ := fun {R} q =>
    codeAny_call_builtin sl_slot.plain sl_ent (sl_slot.check _ _ _ _ _ _ _ _ T1 (sl_args _ _) (by
      refine ent ?_
      exact q))
  have by_ : ∀ {Q : Value → Shared → Prop} {E : Value → Shared → Prop}, Q (.type "slice") ⟨h, g, d, t + 1, os⟩ → wpAny (model prog w) A (getAttrBy (.ref a) (.str "__class__" t) false) Q E ⟨h, g, d, t + 1, os⟩ := fun {Q E} q => by
    repeat (any_goals (first | assumption | wp_step))
    refine cal ?_; repeat (any_goals (first | assumption | wp_step))
  unfold getAttr? getAttrBy?; repeat (any_goals (first | assumption | with_reducible apply by_ | wp_step))
end
/-- at a: a slice -/
def SlO (a : Addr) : HO := .ext fun h => ∃ vs : Array Value, h.get? a = some ({ cls := .type "slice", data := .fields vs } : Obj)
theorem kitx_sl {K : PySem.W.Frag} {a : Addr} : PySem.W.KitX K (.ref a) (.type "slice") (PySem.W.KitAt a "slice") := PySem.W.kitx_of PySem.W.kitAt_ty (fun p k => by
  obtain ⟨o, h1, h2⟩ := p
  exact sl_class h1 h2 k)
end PK
namespace PK
open L2 PySem PySem.Spec PyProof.Rows
/-! ## numbers that are not wanted -/
def NumBad (n : Int) (v : V) (H : Hp) : Prop := (∃ i, v = .int i ∧ ¬ (0 ≤ i ∧ i < n)) ∨ (∃ b, v = .bl b) ∨ ∃ a, v = .ref a ∧ H a = some (SlO a)
theorem numBad_s {n : Int} {v : V} {H H' : Hp} (e : Same H H') (h : NumBad n v H) : NumBad n v H' := by
  rcases h with h | h | ⟨a, rfl, h⟩
  · exact .inl h
  · exact .inr (.inl h)
  · exact .inr (.inr ⟨a, rfl, e _ _ h⟩)
/-- isinstance of a slice -/
def rIsiSl : List V → Hp → VK → Prop := fun xs H Q => ∃ (a : Addr) (t : Bt), xs = [.ref a, .ty t.n] ∧ H a = some (SlO a) ∧ Q (.bl false) H
theorem kit_sl (t : Bt) : kitB "slice" t.n = some false := by
  cases t <;> kernel_rfl
theorem call_isiSl {X : Cx} : CallR X (.builtin "isinstance") rIsiSl := by
  intro pins s σ H xs us Q I r h
  obtain ⟨a, t, rfl, ea, q⟩ := h
  obtain ⟨u1, u2, rfl, r1, r2⟩ := vals2 r
  have e2 := (ClsV.ty t.n).eq r2
  subst e2
  obtain rfl : u1 = Value.ref a := r1
  obtain ⟨⟨vs, ho⟩, _, _⟩ := (show ObjOk X.prog X.w H s.heap a (SlO a) from I.hok a _ ea)
  exact PySem.W.kia_one kitx_sl I.kIn ⟨_, ho, rfl⟩ (kit_ty (kit_sl t)) (by intro z; cases z) fun tk => ⟨.bl false, H, I.tok tk, rfl, q⟩
section
variable {ι : Type} {Y : ι → Cx} {P : Program} {w : World} {K : PySem.W.Frag} {mg : Str → Option Value} {base : Heap} {k k' : Nat} {σ : L2.St} {H H' : Hp} {a b c e e2 : Expr} {es : List Expr} {pos p p2 : Pos} {d d1 d2 : PyData} {x : Str} {b1 b2 : Bool} {D : Ends} {R R1 : V → Hp → Prop} {rest : List Stmt} {i : Int} {sp : Sp}
theorem de_isiSl (t : Bt) {n : Str} (F : Fm P w K mg base k Y) (g : mg "isinstance" = none) (gT : mg n = none) {A : Addr} (ha : ER Y σ H a fun v H' => v = .ref A ∧ H' A = some (SlO A)) (hT : n = Str.ofString t.n := by rfl) (hg : ∀ i, Gl (Y i) "isinstance" := by intro _; rfl) (hg2 : ∀ i, Gl (Y i) n := by intro _; rfl)
    (hn : n ≠ "__name__" := by decide) (hd : (n == ("__debug__" : Str)) = false := by decide) (he : ∀ i, starEach [a, .Name n p2] (Y i).env = (false, eval a (Y i).env) :: starEach [.Name n p2] (Y i).env := by intro _; rfl)
    (he2 : ∀ i, starEach [.Name n p2] (Y i).env = (false, eval (.Name n p2) (Y i).env) :: starEach [] (Y i).env := by intro _; rfl) (hpl : ∀ i, (backTo pos (starEach [.Name n p2] (Y i).env)).any (·.1) = false := by intro _; rfl) : DE Y K σ H (.Call (.Name "isinstance" p) [a, .Name n p2] [] pos) (.bool false) := by
  obtain ⟨t1, h1, q1⟩ := ha
  refine ⟨tCB rIsiSl (tCons t1 (tCons (tC (.ty t.n)) tNil)), fun i => pe_callB call_isiSl (hg i) (by rw [F.hmg i]; exact g) boot_isinstance (pa_cons (h1 i) (pa_cons (pe_bltn (hg2 i) (by rw [F.hmg i]; exact gT) (boot_bt t hT) rfl hn hd) pa_nil (he2 i)) (he i)) (by decide) (by decide) (he i) (hpl i), fun H1 e1 Q q => q1 H1 e1 _ fun v H2 e2 hv => ?_⟩
  obtain ⟨rfl, hA⟩ := hv
  exact ⟨A, t, rfl, hA, q _ H2 e2 (.bl _)⟩
/-- f(e, e2), e anything -/
theorem er_f2 (F : Fm P w K mg base k Y) (G : FnC P w K mg base k' x sp) (ha : ER Y σ H e R1) (hR : ∀ v H1 H2, Same H1 H2 → R1 v H1 → R1 v H2) (hb : DE Y K σ H e2 d2) (hsp : ∀ v u H1, R1 v H1 → Dp K H1 u d2 → ∀ Q : VK, (∀ v H2, Same H1 H2 → R v H2 → Q v H2) → sp [v, u] H1 Q E0) (hk : k' ≤ k := by decide)
    (hg : ∀ i, Gl (Y i) x := by intro _; rfl) (hdb : (x == ("__debug__" : Str)) = false := by decide) (he : ∀ i, starEach [e, e2] (Y i).env = (false, eval e (Y i).env) :: starEach [e2] (Y i).env := by intro _; rfl) (he2 : ∀ i, starEach [e2] (Y i).env = (false, eval e2 (Y i).env) :: starEach [] (Y i).env := by intro _; rfl)
    (hpl : ∀ i, (backTo pos (starEach [e2] (Y i).env)).any (·.1) = false := by intro _; rfl) : ER Y σ H (.Call (.Name x p) [e, e2] [] pos) R := by
  obtain ⟨f, fd, ps, G, kp, gm, bd⟩ := G
  obtain ⟨t1, h1, q1⟩ := ha
  obtain ⟨t2, h2, q2⟩ := hb
  refine ⟨tCall sp [] E0 (tCons t1 (tCons t2 tNil)), fun i => ?_, fun H1 e1 Q q => q1 H1 e1 _ fun v H2 e2' hv => q2 H2 (e1.trans (up_of e2')) _ fun u H3 e3 hu => ?_⟩
  · have G' : FnOk (Y i).prog (Y i).w (Y i).K (Y i).mg (Y i).base CX0 k' f fd ps sp := by
      rw [F.hP i, F.hw i, F.hK i, F.hmg i, F.hb i]
      exact G
    exact pe_call G' ((F.rm i).mono hk) (hg i) (by rw [F.hmg i]; exact gm) (by rw [F.hK i]; exact kp) (by rw [F.hK i]; exact bd) .nil pass0 (pa_cons (h1 i) (pa_cons (h2 i) pa_nil (he2 i)) (he i)) hdb (he i) (hpl i)
  · show sp ([v, u] ++ []) H3 Q E0
    rw [List.append_nil]
    exact hsp v u H3 (hR _ _ _ e3 hv) hu Q fun z H4 e4 h4 => q z H4 ((e2'.trans e3).trans e4) h4
end
def spNB (K : PySem.W.Frag) : Sp := fun vs H Q _ => ∃ (v u : V) (n : Int), vs = [v, u] ∧ Dp K H u (.int n) ∧ NumBad n v H ∧ Ret K (.bool false) H Q
section
variable {P : Program} {w : World} {K : PySem.W.Frag} {mg : Str → Option Value} {base : Heap} (T : Txt w K mg)
include T
theorem f_isNB : FnC P w K mg base 1 "is_number" (spNB K) := by
  refine fnC_of (k := 0) (N := ["value", "many"]) (ps := ["value", "many"]) (h_is_number T) (m_is_number T) ⟨rfl, rfl, rfl, by decide +kernel, rfl, by decide +kernel, by decide +kernel⟩ (fun _ _ _ _ _ _ us hl => match us, hl with | [_, _], _ => rfl) (fun vs H Q E h => by
    obtain ⟨_, _, _, rfl, _⟩ := h
    rfl) fun cdv A outer s H vs Q E F hs => ?_
  obtain ⟨v0_, v1_, n, rfl, h1, hb, hq⟩ := hs
  show DSs _ _ [some v0_, some v1_] _ _
  rcases hb with ⟨i, rfl, hi⟩ | ⟨b, rfl⟩ | ⟨sl, rfl, hS⟩
  · have h0 : Dp K H (.int i) (.int i) := .int i
    exact ds_ret (de_and (de_isi .int F (n_isinstance T) (n_int T) (de_v 0 h0)) fun hb1 => (de_and (de_not (de_isi .bool F (n_isinstance T) (n_bool T) (de_v 0 h0))) fun hb2 => (de_one (de_chain de_int (de_v 0 h0) (de_v 1 h1) cm_le cm_lt)))) hq (by
      have q : (decide (0 ≤ i) && decide (i < n)) = false := by
        rw [← Bool.decide_and]
        exact decide_eq_false hi
      simp only [isiD]
      rw [q] <;> rfl)
  · have h0 : Dp K H (.bl b) (.bool b) := .bl b
    exact ds_ret (de_and (de_isi .int F (n_isinstance T) (n_int T) (de_v 0 h0)) fun hb1 => (de_and (b2 := false) (de_not (de_isi .bool F (n_isinstance T) (n_bool T) (de_v 0 h0))) fun hb2 => by
      simp only [isiD] at hb2
      cases hb2)) hq (by simp [isiD])
  · exact ds_ret (de_and (b2 := false) (de_isiSl .int F (n_isinstance T) (n_int T) (er_v 0 fun H1 u => ⟨rfl, u _ _ hS fun _ z => by cases z⟩)) fun hb1 => by cases hb1) hq rfl

end
/-! ## Script.__getitem__ -/
def spGI (K : PySem.W.Frag) : Sp := fun vs H Q E => ∃ (p dx : Addr) (tv v : V) (ds : List PyData), vs = [.ref p, v] ∧ H p = some (.ins (He.ga K "Script") dx [("steps", tv)]) ∧ Dp K H tv (.tuple ds) ∧
  ((∃ i d, v = .int i ∧ 0 ≤ i ∧ i < (ds.length : Nat) ∧ atI ds i = some d ∧ ∀ v' H', Same H H' → Dp K H' v' d → Q v' H') ∨ (NumBad (ds.length : Nat) v H ∧ ∀ d H', Same H H' → H d = none → H' d = some (.xd [("value", v)]) → E (.ref (He.ga K "BadNumber")) (some d) H'))
/-- what is known of BadNumber and of Script's __getitem__ -/
structure TailT (P : Program) (K : PySem.W.Frag) (mg : Str → Option Value) : Prop where
  bad : BadC P K (He.ga K "BadNumber") (He.ma K (He.ga K "BadNumber") "__init__")
  bI : PySem.W.findIn K (.ref (He.ga K "BadNumber")) "__init__" = some (some (.ref (He.ma K (He.ga K "BadNumber") "__init__")))
  bT : PySem.W.typeIn K (.ref (He.ma K (He.ga K "BadNumber") "__init__")) = some (.type "function")
  sq : PySem.W.noSeq K (He.ga K "Script") = true
  gf : PySem.W.fnIn K (He.ma K (He.ga K "Script") "__getitem__") = true
  sup : mg "super" = none
section
variable {P : Program} {w : World} {K : PySem.W.Frag} {mg : Str → Option Value} {base : Heap} (T : Txt w K mg) (U : TailT P K mg)
include T U
theorem mk_bad {X : Cx} {j : Nat} {nx : Str} {p1 p2 pos : Pos} (hP : X.prog = P) (hw : X.w = w) (hK : X.K = K) (hmg : X.mg = mg) (hb : X.base = base) (hr : Room 2 X.A) (hg : Gl X "BadNumber") (hN : X.N[j]? = some nx) (hv : Vis X.env.scope nx) (hd : (nx == ("__debug__" : Str)) = false) (hcd : (nx == ("__classdict__" : Str)) = false)
    (he : starEach [.Name nx p2] X.env = (false, eval (.Name nx p2) X.env) :: starEach [] X.env) (hpl : (backTo pos (starEach [] X.env)).any (·.1) = false) :
    PMk X (.Call (.Name "BadNumber" p1) [.Name nx p2] [] pos) (tMkO (He.ga K "BadNumber") (spBN K (He.ga K "BadNumber")) [] (tCons (tVar j) tNil)) := by
  obtain ⟨fd, G, bd⟩ := bn_init (P := P) (w := w) (mg := mg) (base := base) U.bad U.sup
  have G' : FnOk X.prog X.w X.K X.mg X.base CX0 1 (He.ma K (He.ga K "BadNumber") "__init__") fd ["self", "value"] (spBN K (He.ga K "BadNumber")) := by
    rw [hP, hw, hK, hmg, hb]
    exact G
  exact pmk_oex (by rw [hK]; exact U.bad.oex) (by rw [hK]; exact U.bI) (by rw [hK]; exact U.bT) G' hr (by rw [hK]; exact bd) .nil pass0 hg (by rw [hmg]; exact m_BadNumber T) (pa_cons (pe_var hN hv hd hcd) pa_nil he) (by decide) he hpl
theorem gi_ok : ∃ fd, FnOk P w K mg base (L2.CX P w) 3 (He.ma K (He.ga K "Script") "__getitem__") fd ["self", "number"] (spGI K) ∧ Binds K fd ["self", "number"] [] := by
  obtain ⟨fd, hF⟩ := hC_Script_getitem T
  refine ⟨fd, hF.ok (k := 2) (N := ["self", "number"]) ⟨rfl, rfl, rfl, by decide +kernel, rfl, by decide +kernel, by decide +kernel⟩ (fun vs H Q E h => ?_) (fun cdv A outer s H vs Q E hr h => ?_), hF.bindsN fun _ _ _ _ _ _ us hl => match us, hl with | [_, _], _ => rfl⟩
  · obtain ⟨_, _, _, _, _, rfl, _⟩ := h
    rfl
  · obtain ⟨p, dx, tv, v, ds, rfl, hp, ht, hc⟩ := h
    obtain ⟨Y, eY⟩ : ∃ Y : Unit → Cx, Y = fun _ => cxOf (L2.CX P w) P w K mg base ["self", "number"] "Script.__getitem__" (defScope sC_Script_getitem) (He.ma K (He.ga K "Script") "__getitem__") cdv A outer s H E := ⟨_, rfl⟩
    have key : DSs Y { nx := fun _ H' => Q .non H', rt := Q } (start ["self", "number"] [.ref p, v]) H (defBody sC_Script_getitem) := by
      subst eY
      have F : Fm P w K mg base 2 (fun _ : Unit => cxOf (L2.CX P w) P w K mg base ["self", "number"] "Script.__getitem__" (defScope sC_Script_getitem) (He.ma K (He.ga K "Script") "__getitem__") cdv A outer s H E) := ⟨fun _ => rfl, fun _ => rfl, fun _ => rfl, fun _ => rfl, fun _ => rfl, fun _ => rfl, fun _ => hr, fun _ => by
        show (["self", "number"] : List Str).Nodup
        decide +kernel⟩
      show DSs _ _ [some (.ref p), some v] _ _
      have hs : Vx K H (.ref p) (.scr ds) := ⟨p, dx, tv, rfl, hp, ht⟩
      rcases hc with ⟨i, d, rfl, h0, h1, hd, hq⟩ | ⟨hbad, hE⟩
      · have hi : Dp K H (.int i) (.int i) := .int i
        refine ds_guard (DT.is (dt_not (dt_e (de_f F (f_is_number T) (xa_d (de_v 1 hi) (xa_d (de_len F (n_len T) (de_steps F (c_Script T) (a_Script T) (xe_v 0 hs)) (.inl rfl)) xa_nil)) ⟨_, _, rfl, trivial, rfl⟩))) (by
          rw [decide_eq_true h0, decide_eq_true h1] <;> rfl)) fun H1 e1 => ?_
        have hs1 := vx_up (up_of e1) hs
        exact ds_ret (de_ixT F (de_steps F (c_Script T) (a_Script T) (xe_v 0 hs1)) (de_v 1 (.int i)) hd) (fun v' H' e' h' => hq v' H' (e1.trans e') h') rfl
      · refine ds_if (b1 := true) (dt_not (dt_e (er_f2 (R1 := NumBad (ds.length : Nat)) F (f_isNB T) (er_v 1 fun H1 u => ?_) (fun _ _ _ e h => numBad_s e h) (de_len F (n_len T) (de_steps F (c_Script T) (a_Script T) (xe_v 0 hs)) (.inl rfl)) (fun v u H1 h1 h2 Q q => ⟨v, u, _, rfl, h2, h1, q⟩)))) (fun _ H1 e1 => ?_) fun z => by cases z
        · rcases hbad with h | h | ⟨a, rfl, h⟩
          · exact .inl h
          · exact .inr (.inl h)
          · exact .inr (.inr ⟨a, rfl, u _ _ h fun _ z => by cases z⟩)
        · refine ds_cons ⟨_, fun _ => ps_raise rfl (takes_of rfl rfl rfl rfl) (mk_bad T U (j := 1) rfl rfl rfl rfl rfl hr rfl rfl (.inl rfl) (by decide) (by decide) rfl rfl), ?_⟩
          refine ⟨v, rfl, ?_⟩
          show [v].length ≤ 1000 ∧ _
          refine ⟨by simp, fun a ha => ?_⟩
          refine ⟨a, v, rfl, upd_same, fun d hd hda => ?_⟩
          have hd1 : H1 d = none := by rwa [upd_ne hda] at hd
          refine ⟨rfl, d, _, upd_same, by rw [upd_ne hda, upd_same], hd1, ?_⟩
          refine hE d _ (fun b o hb => ?_) ?_ upd_same
          · have hb1 := e1 _ _ hb
            rw [upd_ne (ne_of_none hb1 hd1), del_ne (ne_of_none hb1 ha), upd_ne (ne_of_none hb1 ha), upd_ne (ne_of_none hb1 hd1), upd_ne (ne_of_none hb1 ha)]
            exact hb1
          · cases hz : H d with
            | none => rfl
            | some o =>
              rw [e1 _ _ hz] at hd1
              cases hd1
    subst eY
    obtain ⟨t, ht, h⟩ := key
    exact ⟨t, ht (), h⟩
end
/-! ## a subscript of an object whose class has its own __getitem__ -/
section
variable {X : Cx} {k : Nat} {f C : Addr} {fd : FuncData} {ps : List Str} {sp : Sp} {E : XK} {W : WX} {a b : Expr} {ta tb : TE} {pos p2 : Pos}
theorem run_own {pins : List (Addr × Obj)} {σ : L2.St} {H : Hp} {s : Shared} {Q : VK} {us : List Value} {vs : List V} {A : Around} (G : FnOk X.prog X.w X.K X.mg X.base (L2.CX X.prog X.w) k f fd ps sp) (hr : Room k A) (hA : A = X.A ∨ A = X.A.in1) (hb : Binds X.K fd ps []) (tk : Takes X W)
    (hW : ∀ cls d σ' H', E cls d H' → W cls d σ' H') (I : Inv X pins σ H s) (r : Vals vs us) (h : sp vs H Q E) : wpAny (model X.prog X.w) A (call (.ref f) us) (EP X pins σ Q) X.xe s := by
  have hl : us.length = ps.length := by
    rw [← r.length]
    exact G.len _ _ _ _ h
  have e0 : Env0 X.prog X.w X.K X.mg X.base A X.stack s H := by
    rcases hA with rfl | rfl
    · exact I.env0
    · exact I.env0.in1
  have hbb := hb s us I.kIn (by rw [List.append_nil]; exact hl)
  rw [List.append_nil] at hbb
  refine wpAny_call (codeAny_mono (G.run A X.stack s H ⟨us, []⟩ us vs Q E hr e0 hbb r h) fun res s' hq => ?_)
  match res, hq with
  | .error e, hq => exact passes_call tk hW pins σ H s e s' I hq
  | .ok (.ret u), hq => exact I.after hq
def tGet (C : Addr) (sp : Sp) (E : XK) (ta tb : TE) : TE := fun σ H Q => ta σ H fun x H1 => tb σ H1 fun y H2 => ∃ (p dx : Addr) (fs : List (Str × V)), x = .ref p ∧ H2 p = some (.ins C dx fs) ∧ sp [x, y] H2 Q E
/-- a[b], b no slice -/
theorem pe_get (G : FnOk X.prog X.w X.K X.mg X.base (L2.CX X.prog X.w) k f fd ps sp) (hr : Room (k + 1) X.A) (hb : Binds X.K fd ps []) (M : Meth X.K C "__getitem__" f) (hfn : PySem.W.fnIn X.K f = true) (tk : Takes X W) (hW : ∀ cls d σ' H', E cls d H' → W cls d σ' H')
    (ha : PE X a ta) (hi : PE X b tb) (hsl : ∀ o i, subscripted b true o i = runValue (.builtin "lifetime.subscript" ⟨[o, i], []⟩)) : PE X (.Subscript a b pos) (tGet C sp E ta tb) := by
  refine ⟨fun pins s σ H Q I h => Subscript_ (thn (ha.run pins s σ H _ I h) fun u s1 ⟨x, H1, I1, r1, q1⟩ => thn (hi.run pins s1 σ H1 _ I1 q1) fun i s2 ⟨y, H2, I2, r2, p, dx, fs, ex, hp, q⟩ => ?_)⟩
  subst ex
  obtain rfl : u = Value.ref p := r1
  obtain ⟨mA, O, _⟩ := ins_get I2.hok hp
  obtain ⟨od, O', _⟩ := O.look
  obtain ⟨m, fr⟩ := I2.fr
  exact PySem.W.sub_K fr I2.ok.mod.kin O' M.at_ hfn M.fn (run_own G hr.in1 (.inr rfl) hb tk hW I2 (.cons (show RelV (.ref p) (.ref p) from rfl) (.cons r2 .nil)) q) (hsl _ _)
def tGetS (C : Addr) (sp : Sp) (E : XK) (ta : TE) : TE := fun σ H Q => ta σ H fun x H1 => ∃ (p dx : Addr) (fs : List (Str × V)), x = .ref p ∧ H1 p = some (.ins C dx fs) ∧ ∀ sl, H1 sl = none → sp [x, .ref sl] (upd H1 sl (SlO sl)) Q E
/-- a[i:j], i and j plain numbers -/
theorem pe_getS {i j : Int} {k1 k2 : Nat} {q1 q2 : Pos} (G : FnOk X.prog X.w X.K X.mg X.base (L2.CX X.prog X.w) k f fd ps sp) (hr : Room k X.A) (hb : Binds X.K fd ps []) (M : Meth X.K C "__getitem__" f) (hfn : PySem.W.fnIn X.K f = true) (hsq : PySem.W.noSeq X.K C = true) (tk : Takes X W) (hW : ∀ cls d σ' H', E cls d H' → W cls d σ' H')
    (ha : PE X a ta) : PE X (.Subscript a (.Slice (some (.Constant (.int i) k1 q1)) (some (.Constant (.int j) k2 q2)) none p2) pos) (tGetS C sp E ta) := by
  refine ⟨fun pins s σ H Q I h => Subscript_ (thn (ha.run pins s σ H _ I h) fun u s1 ⟨x, H1, I1, r1, p, dx, fs, ex, hp, q⟩ => ?_)⟩
  subst ex
  obtain rfl : u = Value.ref p := r1
  refine wpAny_Slice (thn ((pe_int (X := X) (i := i) (j := k1) (pos := q1)).run pins s1 σ H1 (fun _ H' => H' = H1) I1 rfl) fun vl s2 ⟨l, H2, I2, pl, e2⟩ => thn ((pe_int (X := X) (i := j) (j := k2) (pos := q2)).run pins s2 σ H2 (fun _ H' => H' = H2) I2 rfl) fun vu s3 ⟨u, H3, I3, pu, e3⟩ => ?_)
  subst e3
  subst e2
  rw [evalPart_none]
  refine wpAny_pure ?_
  have kk : ∀ b o, s3.heap.get? b = some o → (s3.heap.push { cls := .type "slice", data := .fields #[vl, vu, .none] }).get? b = some o := fun b o e => Heap.get?_push_of_some _ e
  have new : (s3.heap.push { cls := .type "slice", data := .fields #[vl, vu, .none] }).get? s3.heap.objs.size = some { cls := .type "slice", data := .fields #[vl, vu, .none] } := Heap.get?_push_at rfl rfl
  have nH : H3 s3.heap.objs.size = none := I3.hok.fresh (Nat.le_refl _)
  have I4 : Inv X pins σ (upd H3 s3.heap.objs.size (SlO s3.heap.objs.size)) { s3 with heap := s3.heap.push { cls := .type "slice", data := .fields #[vl, vu, .none] }, toks := s3.toks } := I3.laid kk (Nat.le_refl _) ⟨⟨_, new⟩, ⟨_, new⟩, fun h1 h2 ⟨vs, e⟩ k => ⟨vs, k _ e⟩⟩
  have hp' : upd H3 s3.heap.objs.size (SlO s3.heap.objs.size) p = some (.ins C dx fs) := by
    rw [upd_ne (ne_of_none hp nH)]
    exact hp
  obtain ⟨mA, O, _⟩ := ins_get I4.hok hp'
  obtain ⟨od, O', _⟩ := O.look
  obtain ⟨m, fr⟩ := I4.fr
  have main := PySem.W.getItem_K (M := model X.prog X.w) (A := X.A) (Q := fun r s' => EP X pins σ Q r s') (E := X.xe) fr I4.ok.mod.kin O' hsq M.at_ M.fn (run_own G hr (.inl rfl) hb tk hW I4 (.cons (show RelV (.ref p) (.ref p) from rfl) (.cons (show RelV (.ref s3.heap.objs.size) (.ref s3.heap.objs.size) from rfl) .nil)) (q _ nH))
  obtain ⟨ocf, odf, fdf, slf, elf⟩ : ∃ oc od fd sl, X.K.lookup f = some ⟨oc, od, .func fd, sl⟩ := by
    unfold PySem.W.fnIn at hfn
    split at hfn
    · rename_i z
      exact ⟨_, _, _, _, z⟩
    · cases hfn
  have KI := I4.kIn
  unfold subscriptTail getitemInPython
  refine wpAny_bind (wpAny_bind (wpAny_bind (O'.type.here ((PySem.W.looks_findIn KI M.at_).here ?_)))); dsimp only
  refine wpAny_bind (wpAny_load (KI _ _ elf) (wpAny_pure ?_)); dsimp only
  show wpAny _ _ (operate [.ref s3.heap.objs.size, .ref p] (getItem (.ref p) (.ref s3.heap.objs.size)) >>= fun r => letTemporaryGo a (.ref p) r >>= fun _ => pure r) _ _ _
  exact wpAny_bind (wpAny_operating (wpAny_mono main (fun r s' z => wpAny_bind (wpAny_letTemporaryGo (wpAny_pure z))) fun _ _ z => z))
end
end PK
namespace PK
open L2 PySem PySem.Spec PyProof.Rows
/-! ## a caught exception, told -/
/-- at a: an exception of the class at C, its dict at d -/
def ExO (a C d : Addr) : HO := .ext fun h => ∃ (o : Obj) (vs : Array Value), h.get? a = some o ∧ o.cls = .ref C ∧ o.dict = some d ∧ o.data = .fields vs
structure ErrT (K : PySem.W.Frag) (mg : Str → Option Value) : Prop where
  x : XfC K (He.ga K "BadNumber")
  cls : PySem.W.findIn K (.ref (He.ga K "BadNumber")) "__class__" = some (some (.builtin "object.__class__"))
  gt : PySem.W.specialIn K (.builtin "object.__class__") "__get__" = some (some (.builtin "getset_descriptor.__get__"))
  tk : PySem.W.takesIn K (.builtin "object.__class__") = some true
  mo : PySem.W.mroIn K (He.ga K "BadNumber") (.type "object") = some true
  hcl : (PySem.W.clsIn K (He.ga K "BadNumber")).isSome = true
  nv : PySem.W.findIn K (.ref (He.ga K "BadNumber")) "value" = some none
  is : ∀ n ∈ kn, PySem.W.kitOne K (.ref (He.ga K "BadNumber")) (.ref (He.ga K n)) = some (n == "BadNumber")
  gm : ∀ n ∈ kn, mg n = some (.ref (He.ga K n))
theorem exO_inst {P : Program} {w : World} {H : Hp} {h : Heap} {a C d : Addr} {fs : List (Str × V)} (hok : HOk P w H h) (ha : H a = some (ExO a C d)) (hd : H d = some (.xd fs)) : ∃ (ox od : Obj) (mA : Str → Option Value), PySem.W.InstAt h a ox C (some od) ∧ (∀ f, RelO (fs.lookup f) (mA f)) ∧ ∀ name, PySem.W.lookIn name od = some (mA name) := by
  obtain ⟨⟨ox, vs, h1, h2, h3, h4⟩, _, _⟩ := (show ObjOk P w H h a (ExO a C d) from hok a _ ha)
  obtain ⟨mA, hns, hr⟩ := (show ObjOk P w H h d (.xd fs) from hok d _ hd)
  obtain ⟨od, ho, hl⟩ := lookIn_ns hns
  exact ⟨ox, od, mA, ⟨h1, h2, by unfold PySem.W.notCls; rw [h4] <;> rfl, by rw [h3]; exact ho⟩, hr, hl⟩
def rIsiEx (K : PySem.W.Frag) : List V → Hp → VK → Prop := fun xs H Q => ∃ (a d Cc : Addr) (fs : List (Str × V)) (b : Bool), xs = [.ref a, .ref Cc] ∧ H a = some (ExO a (He.ga K "BadNumber") d) ∧ H d = some (.xd fs) ∧ PySem.W.kitOne K (.ref (He.ga K "BadNumber")) (.ref Cc) = some b ∧ Q (.bl b) H
theorem call_isiEx {X : Cx} {mg : Str → Option Value} (V : ErrT X.K mg) : CallR X (.builtin "isinstance") (rIsiEx X.K) := by
  intro pins s σ H xs us Q I r h
  obtain ⟨a, d, Cc, fs, b, rfl, ea, ed, kk, q⟩ := h
  obtain ⟨u1, u2, rfl, r1, r2⟩ := vals2 r
  obtain rfl : u1 = Value.ref a := r1
  obtain rfl : u2 = Value.ref Cc := r2
  obtain ⟨ox, od, mA, J, _, _⟩ := exO_inst I.hok ea ed
  exact PySem.W.kia_one (PySem.W.kitx_exc V.hcl V.x.ga V.x.gg V.x.exC V.cls V.gt V.tk V.mo) I.kIn J kk (by intro z; cases z) fun tk => ⟨.bl b, H, I.tok tk, rfl, q⟩
section
variable {ι : Type} {Y : ι → Cx} {P : Program} {w : World} {K : PySem.W.Frag} {mg : Str → Option Value} {base : Heap} {k k' : Nat} {σ : L2.St} {H H' : Hp} {e c e1 e2 : Expr} {pos p p1 p2 : Pos} {x nC : Str} {R : V → Hp → Prop} {a d : Addr} {v : V} {z : Str}
theorem de_isiEx (j : Nat) (F : Fm P w K mg base k Y) (V : ErrT K mg) (hn : nC ∈ kn) (g : mg "isinstance" = none) (ha : H a = some (ExO a (He.ga K "BadNumber") d)) (hd : H d = some (.xd [("value", v)])) (hs : σ[j]? = some (some (.ref a)) := by rfl) (hN : ∀ i, (Y i).N[j]? = some x := by intro _; rfl)
    (hv : ∀ i, Vis (Y i).env.scope x := by intro _; first | exact Or.inl rfl | exact Or.inr (Or.inl rfl) | exact Or.inr (Or.inr rfl)) (hdx : (x == ("__debug__" : Str)) = false := by decide) (hcd : (x == ("__classdict__" : Str)) = false := by decide) (hg : ∀ i, Gl (Y i) "isinstance" := by intro _; rfl) (hg2 : ∀ i, Gl (Y i) nC := by intro _; rfl)
    (hdn : (nC == ("__debug__" : Str)) = false := by decide) (he : ∀ i, starEach [.Name x p1, .Name nC p2] (Y i).env = (false, eval (.Name x p1) (Y i).env) :: starEach [.Name nC p2] (Y i).env := by intro _; rfl)
    (he2 : ∀ i, starEach [.Name nC p2] (Y i).env = (false, eval (.Name nC p2) (Y i).env) :: starEach [] (Y i).env := by intro _; rfl) (hpl : ∀ i, (backTo pos (starEach [.Name nC p2] (Y i).env)).any (·.1) = false := by intro _; rfl) : DE Y K σ H (.Call (.Name "isinstance" p) [.Name x p1, .Name nC p2] [] pos) (.bool (nC == "BadNumber")) := by
  refine ⟨tCB (rIsiEx K) (tCons (tVar j) (tCons (tC (.ref (He.ga K nC))) tNil)), fun i => pe_callB (by
    have q := call_isiEx (X := Y i) (mg := mg) (by rw [F.hK i]; exact V)
    rw [F.hK i] at q
    exact q) (hg i) (by rw [F.hmg i]; exact g) boot_isinstance (pa_cons (pe_var (hN i) (hv i) hdx hcd) (pa_cons (pe_glob (hg2 i) (by rw [F.hmg i]; exact V.gm _ hn) (show RelV (.ref (He.ga K nC)) (.ref (He.ga K nC)) from rfl) hdn) pa_nil (he2 i)) (he i)) (by decide) (by decide) (he i) (hpl i), fun H1 u Q q => ⟨.ref a, hs, ?_⟩⟩
  exact ⟨a, d, He.ga K nC, _, _, rfl, u _ _ ha (fun _ z => by cases z), u _ _ hd (fun _ z => by cases z), V.is _ hn, q _ H1 (Same.refl _) (.bl _)⟩
/-- e.value, e a caught exception -/
theorem er_exv (j : Nat) (F : Fm P w K mg base k Y) (V : ErrT K mg) (ha : H a = some (ExO a (He.ga K "BadNumber") d)) (hd : H d = some (.xd [("value", v)])) (hs : σ[j]? = some (some (.ref a)) := by rfl) (hN : ∀ i, (Y i).N[j]? = some x := by intro _; rfl)
    (hv : ∀ i, Vis (Y i).env.scope x := by intro _; first | exact Or.inl rfl | exact Or.inr (Or.inl rfl) | exact Or.inr (Or.inr rfl)) (hdx : (x == ("__debug__" : Str)) = false := by decide) (hcd : (x == ("__classdict__" : Str)) = false := by decide)
    (hb : ∀ i, attributeBase (.Name x p1) "value" (Y i).env (eval (.Name x p1) (Y i).env) = eval (.Name x p1) (Y i).env := by intro _; rfl) : ER Y σ H (.Attribute (.Name x p1) "value" pos) fun v' _ => v' = v := by
  refine ⟨fun σ H1 Q => σ[j]? = some (some (.ref a)) ∧ H1 a = some (ExO a (He.ga K "BadNumber") d) ∧ H1 d = some (.xd [("value", v)]) ∧ Q v H1, fun i => ⟨fun pins s σ H Q I h => ?_⟩, fun H1 u Q q => ⟨hs, u _ _ ha (fun _ z => by cases z), u _ _ hd (fun _ z => by cases z), q v H1 (Same.refl _) rfl⟩⟩
  obtain ⟨h1, h2, h3, q⟩ := h
  refine attr_of (hb i) (thn ((pe_var (X := Y i) (pos := p1) (hN i) (hv i) hdx hcd).run pins s σ H (fun x' H' => x' = .ref a ∧ H' = H) I ⟨.ref a, h1, rfl, rfl⟩) fun u s1 ⟨x', H1, I1, rx, ex, eH⟩ => ?_)
  subst ex
  subst eH
  obtain rfl : u = Value.ref a := rx
  obtain ⟨ox, od, mA, J, hr, hl⟩ := exO_inst I1.hok h2 h3
  obtain ⟨u, hu, ru⟩ := RelO.some_of (v := v) (o := mA "value") (by
    have q := hr "value"
    exact q)
  have V' : ErrT (Y i).K mg := by
    rw [F.hK i]
    exact V
  rw [← F.hK i] at J
  exact HandSPX.exc_get I1.kIn J V'.x.ga V'.x.gg V'.x.exC (PySem.W.findObj_own V'.x.hdC V'.nv rfl (by rw [hl, hu])) (handed_of ru) ⟨v, H1, I1.tok _, ru, q⟩
theorem er_ifF (hc : DT Y σ H c false) (hb : ER Y σ H e R) : ER Y σ H (.IfExp c e1 e pos) R := by
  obtain ⟨t1, h1, q1⟩ := hc
  obtain ⟨t2, h2, q2⟩ := hb
  exact ⟨tIf t1 (fun _ _ _ => False) t2, fun i => pe_ifExp (h1 i) pe_no (h2 i), fun H1 u Q q => q1 H1 u _ fun H2 u2 => iteF (q2 H2 (u.trans (up_of u2)) _ fun v H3 u3 h3 => q v H3 (u2.trans u3) h3)⟩
/-- (e, e2): the tuple just laid -/
theorem er_pair {kt : Nat} (h1 : ER Y σ H e1 fun v' _ => v' = .str z) (h2 : ER Y σ H e2 fun v' _ => v' = v) (he : ∀ i, starEach [e1, e2] (Y i).env = (false, eval e1 (Y i).env) :: starEach [e2] (Y i).env := by intro _; rfl)
    (he2 : ∀ i, starEach [e2] (Y i).env = (false, eval e2 (Y i).env) :: starEach [] (Y i).env := by intro _; rfl) : ER Y σ H (.Tuple [e1, e2] kt pos) fun v' H' => ∃ t, v' = .ref t ∧ H' t = some (.tup [.str z, v]) := by
  obtain ⟨t1, h1, q1⟩ := h1
  obtain ⟨t2, h2, q2⟩ := h2
  refine ⟨tTup (tCons t1 (tCons t2 tNil)), fun i => pe_tup (pa_cons (h1 i) (pa_cons (h2 i) pa_nil (he2 i)) (he i)), fun H1 u Q q => q1 H1 u _ fun v1 H2 u2 e1 => q2 H2 (u.trans (up_of u2)) _ fun v2 H3 u3 e2 => ?_⟩
  subst e1
  subst e2
  exact ⟨by rw [sizeLine_eq]; simp, fun t ht => q _ _ ((u2.trans u3).trans (same_new ht)) ⟨t, rfl, upd_same⟩⟩
theorem er_of_str (h : DE Y K σ H e (.str z)) : ER Y σ H e fun v' _ => v' = .str z := by
  obtain ⟨t, ht, h⟩ := h
  refine ⟨t, ht, fun H1 u Q q => h H1 u Q fun v' H2 u2 hd => q v' H2 u2 ?_⟩
  cases hd
  rfl
end
def spEW (K : PySem.W.Frag) : Sp := fun vs H Q _ => ∃ (a d : Addr) (v : V), vs = [.ref a] ∧ H a = some (ExO a (He.ga K "BadNumber") d) ∧ H d = some (.xd [("value", v)]) ∧ ∀ t H', Up H H' → H' t = some (.tup [.str "number", v]) → Q (.ref t) H'
abbrev kw12 : List Str := ["server", "copy", "act", "condition", "script", "state", "event", "others", "net", "promise", "number", "great"]
theorem xtrue_si : SI (fun _ => True) := fun _ _ _ _ => trivial
section
variable {P : Program} {w : World} {K : PySem.W.Frag} {mg : Str → Option Value} {base : Heap} (T : Txt w K mg) (V : ErrT K mg)
include T V
theorem f_error_word : FnC P w K mg base 1 "_law_error_word" (spEW K) := by
  refine fnC_of (k := 0) (N := ["_law_error", "_law_kinds", "_law_words", "_law_word", "_law_holds"]) (ps := ["_law_error"]) (h_law_error_word T) (m_law_error_word T) ⟨rfl, rfl, rfl, by decide +kernel, rfl, by decide +kernel, by decide +kernel⟩ (fun _ _ _ _ _ _ us hl => match us, hl with | [_], _ => rfl) (fun vs H Q E h => by
    obtain ⟨_, _, _, rfl, _⟩ := h
    rfl) fun cdv A outer s H vs Q E F hs => ?_
  obtain ⟨a, d, v, rfl, ha, hd, hq⟩ := hs
  show DSs _ _ [some (.ref a), none, none, none, none] _ _
  refine ds_set (F := F) 1 (fl_lst (xa_d (de_tup (xa_d de_str (xa_d (de_isiEx 0 F V (by decide) (n_isinstance T) ha hd) xa_nil))) (xa_d (de_tup (xa_d de_str (xa_d (de_isiEx 0 F V (by decide) (n_isinstance T) ha hd) xa_nil))) xa_nil))) fun v1 H1 u1 h1 => ?_
  replace ha := u1 _ _ ha; replace hd := u1 _ _ hd
  show DSs _ _ [some (.ref a), some v1, none, none, none] _ _
  refine ds_set (F := F) 1 (fl_cat F (de_v 1 h1.dp) (de_lst (K := K) (xa_d (de_tup (xa_d de_str (xa_d (de_isiEx 0 F V (by decide) (n_isinstance T) ha hd) xa_nil))) (xa_d (de_tup (xa_d de_str (xa_d (de_isiEx 0 F V (by decide) (n_isinstance T) ha hd) xa_nil))) xa_nil)))) fun v2 H2 u2 h2 => ?_
  replace ha := u2 _ _ ha; replace hd := u2 _ _ hd
  show DSs _ _ [some (.ref a), some v2, none, none, none] _ _
  refine ds_set (F := F) 1 (fl_cat F (de_v 1 h2.dp) (de_lst (K := K) (xa_d (de_tup (xa_d de_str (xa_d (de_isiEx 0 F V (by decide) (n_isinstance T) ha hd) xa_nil))) (xa_d (de_tup (xa_d de_str (xa_d (de_isiEx 0 F V (by decide) (n_isinstance T) ha hd) xa_nil))) xa_nil)))) fun v3 H3 u3 h3 => ?_
  replace ha := u3 _ _ ha; replace hd := u3 _ _ hd
  show DSs _ _ [some (.ref a), some v3, none, none, none] _ _
  refine ds_set (F := F) 1 (fl_cat F (de_v 1 h3.dp) (de_lst (K := K) (xa_d (de_tup (xa_d de_str (xa_d (de_isiEx 0 F V (by decide) (n_isinstance T) ha hd) xa_nil))) (xa_d (de_tup (xa_d de_str (xa_d (de_isiEx 0 F V (by decide) (n_isinstance T) ha hd) xa_nil))) xa_nil)))) fun v4 H4 u4 h4 => ?_
  replace ha := u4 _ _ ha; replace hd := u4 _ _ hd
  show DSs _ _ [some (.ref a), some v4, none, none, none] _ _
  refine ds_set (F := F) 1 (fl_cat F (de_v 1 h4.dp) (de_lst (K := K) (xa_d (de_tup (xa_d de_str (xa_d (de_isiEx 0 F V (by decide) (n_isinstance T) ha hd) xa_nil))) (xa_d (de_tup (xa_d de_str (xa_d (de_isiEx 0 F V (by decide) (n_isinstance T) ha hd) xa_nil))) xa_nil)))) fun v5 H5 u5 h5 => ?_
  replace ha := u5 _ _ ha; replace hd := u5 _ _ hd
  show DSs _ _ [some (.ref a), some v5, none, none, none] _ _
  refine ds_set (F := F) 1 (fl_cat F (de_v 1 h5.dp) (de_lst (K := K) (xa_d (de_tup (xa_d de_str (xa_d (de_isiEx 0 F V (by decide) (n_isinstance T) ha hd) xa_nil))) (xa_d (de_tup (xa_d de_str (xa_d (de_isiEx 0 F V (by decide) (n_isinstance T) ha hd) xa_nil))) xa_nil)))) fun v6 H6 u6 h6 => ?_
  replace ha := u6 _ _ ha; replace hd := u6 _ _ hd
  have uA : Same H H6 := ((((u1.trans u2).trans u3).trans u4).trans u5).trans u6
  show DSs _ _ [some (.ref a), some v6, none, none, none] _ _
  refine dsi_lc (I := fun _ => True) 2 (el_lc (own := [("_law_word", 3), ("_law_holds", 4)]) (js := [3, 4]) (n := 12) (fs := fun i => [.str (kw12.getD i ""), .bool (decide (i = 10))]) [_] (fun _ _ => True) (fun i _ => i = 10) (fun i rs => rs = if i ≤ 10 then [] else [.str "number"]) (fun i r => i = 10 ∧ r = .str "number") F (se_lst F (de_v 1 h6.dp)) (tb_tup (F.blk _) (gn_cons (F.blk _) 3 (gn_cons (F.blk _) 4 gn_nil))) rfl (fun i hi => ?_) (by decide) (by intro _; show BlkOk ["_law_error", "_law_kinds", "_law_words", "_law_word", "_law_holds"] (defScope s_law_error_word) _ _; exact ⟨rfl, by decide +kernel, by decide +kernel, by decide +kernel, by decide +kernel⟩) (.inr ⟨_, rfl⟩) (fun i => xtrue_si) (fun i _ _ _ _ _ _ _ _ _ _ => trivial) rfl (fun i r h => by
      obtain ⟨_, rfl⟩ := h
      rfl) (fun i rs r h hr => by
      obtain ⟨rfl, rfl⟩ := hr
      rw [h] <;> rfl) (fun i vs H1 u hi hl hd => by
      obtain ⟨v3_, v4_, rfl, h3, h4⟩ := dpa2 hd
      refine .inr ⟨_, fun _ => True, (· = decide (i = 10)), rfl, ti_dt xtrue_si (dt_e (de_v 4 h4)), fun hz H h => of_decide_eq_true hz.symm, fun hz => ⟨fun H h => trivial, fun rs h => ?_⟩⟩
      have hn : i ≠ 10 := of_decide_eq_false hz.symm
      rw [h]
      by_cases hi10 : i ≤ 10
      · rw [if_pos hi10, if_pos (by omega)]
      · rw [if_neg hi10, if_neg (by omega)]) (fun i vs H1 u hi hl hd => by
      obtain ⟨v3_, v4_, rfl, h3, h4⟩ := dpa2 hd
      refine (EI.pre (I := fun _ => True ∧ i = 10) (ei_with (ei_de (I := fun _ => True) xtrue_si (de_v 3 h3))) fun H h => ⟨trivial, h⟩).mono fun d hd => ?_
      obtain ⟨rfl, rfl⟩ := hd
      exact ⟨rfl, rfl⟩)) trivial (fun v2_ rs H7 u7 _ h7 hrs _ => ?_)
  · rcases i with _ | _ | _ | _ | _ | _ | _ | _ | _ | _ | _ | _ | i
    · exact ⟨rfl, rfl⟩
    · exact ⟨rfl, rfl⟩
    · exact ⟨rfl, rfl⟩
    · exact ⟨rfl, rfl⟩
    · exact ⟨rfl, rfl⟩
    · exact ⟨rfl, rfl⟩
    · exact ⟨rfl, rfl⟩
    · exact ⟨rfl, rfl⟩
    · exact ⟨rfl, rfl⟩
    · exact ⟨rfl, rfl⟩
    · exact ⟨rfl, rfl⟩
    · exact ⟨rfl, rfl⟩
    · omega
  subst hrs
  have ha7 := u7 _ _ ha (fun _ z => by cases z)
  have hd7 := u7 _ _ hd (fun _ z => by cases z)
  show DSs _ _ [some (.ref a), some v6, some v2_, _, _] _ _
  have h7' : Dp K H7 v2_ (.list [.str "number"]) := h7.dp
  refine ds_guard (DT.is (dt_cmp (de_len F (n_len T) (de_v 2 h7') (.inr rfl)) de_int cm_nei) (by decide)) fun H8 u8 => ?_
  replace ha7 := u8 _ _ ha7; replace hd7 := u8 _ _ hd7; replace h7' := dp_up (up_of u8) _ _ h7'
  refine ds_guard (DT.is (dt_cmp (de_ixL F (de_v 2 h7') de_int) de_str cm_eqs) (by decide)) fun H9 u9 => ?_
  replace ha7 := u9 _ _ ha7; replace hd7 := u9 _ _ hd7; replace h7' := dp_up (up_of u9) _ _ h7'
  refine ds_retR (er_ifF (DT.is (dt_cmp (de_ixL F (de_v 2 h7') de_int) de_str cm_eqs) (by decide)) (er_pair (er_of_str (de_ixL F (de_v 2 h7') de_int)) (er_exv 0 F V ha7 hd7))) fun v' H' e' h' => ?_
  obtain ⟨t, rfl, ht⟩ := h'
  exact hq t H' ((up_of uA).trans (u7.trans (up_of ((u8.trans u9).trans e')))) ht
end
end PK
namespace PK
open L2 PySem PySem.Spec PyProof.Rows
/-! ## except (X1, X2) as n: the exception stays known behind the suite -/
theorem flying_more {B h h' : Heap} {l : List Env} {a : Addr} {Z : Obj → Prop} (x : HandSPX.FlyingZ B l a Z h) (k : ∀ b o, h.get? b = some o → h'.get? b = some o) : HandSPX.FlyingZ B l a Z h' := by
  obtain ⟨g1, g2, g3, oe, vs, T, oT, ts, t1, t2, t3, t4, t5, t6, t7, t8, t9⟩ := x
  exact ⟨fun b o z => k b o (g1 b o z), g2, Heap.FunFrames.of_keeps (fun b o z _ => ⟨o, k b o z, rfl⟩) g3, oe, vs, T, oT, ts, k _ _ t1, t2, t3, t4, t5, t6, k _ _ t7, t8, t9⟩
/-- a new object is told of from now on -/
theorem inv_track {X : Cx} {pins : List (Addr × Obj)} {σ : L2.St} {H : Hp} {s : Shared} {a C d : Addr} {o : Obj} {vs : Array Value} (I : Inv X pins σ H s) (n : H a = none) (n0 : X.s_0.heap.get? a = none) (nL : a ≠ X.env.locals) (nC : ∀ x c, X.env.cells.lookup x = some c → c ≠ a) (nP : ∀ p ∈ X.pn ++ pins, p.1 ≠ a)
    (ho : s.heap.get? a = some o) (hc : o.cls = .ref C) (hd : o.dict = some d) (hv : o.data = .fields vs) : Inv X pins σ (upd H a (ExO a C d)) s := by
  have at_ : ∀ {b : Addr}, b ≠ a → upd H a (ExO a C d) b = H b := fun h => upd_ne h
  refine ⟨I.ok, I.os, I.bare, ⟨I.base.keep, I.base.slot, fun b u z q hx => ?_, I.base.there, fun b xs q => ?_, fun b u v q => ?_, fun b ps q => ?_⟩, I.loc, I.cell, ?_, fun x c q => ?_, fun p hp => ?_, fun b u q => ?_, I.len⟩
  · rw [at_ (fun e => by rw [e, n0] at z; cases z)]
    exact I.base.free b u z q hx
  · have z := I.base.tups b xs q
    rw [at_ (ne_of_none z n)]
    exact z
  · have z := I.base.frzs b u v q
    rw [at_ (ne_of_none z n)]
    exact z
  · obtain ⟨more, z⟩ := I.base.tbls b ps q
    exact ⟨more, by rw [at_ (ne_of_none z n)]; exact z⟩
  · rw [at_ (Ne.symm nL)]
    exact I.free
  · rw [at_ (nC x c q)]
    exact I.freeC x c q
  · obtain ⟨p1, p2, p3, p4, p5⟩ := I.pin p hp
    exact ⟨p1, by rw [at_ (nP p hp)]; exact p2, p3, p4, p5⟩
  · by_cases hb : b = a
    · subst hb
      rw [upd_same] at q
      cases q
      exact ⟨⟨o, vs, ho, hc, hd, hv⟩, ⟨o, ho⟩, fun h1 h2 ⟨o', vs', z1, z2, z3, z4⟩ k => ⟨o', vs', k _ z1, z2, z3, z4⟩⟩
    · rw [at_ hb] at q
      exact (I.hok b u q).stay (fun _ _ _ z => z) (fun c z => by rw [at_ (ne_of_none z n)]; exact z) fun c xs z => by rw [at_ (ne_of_none z n)]; exact z
def wTw (K : PySem.W.Frag) (c1 c2 : Value) (i m : Nat) (ts : Addr → TS) (D : Ends) : WX := fun cls d σ H => PySem.W.exmAny K cls [c1, c2] = some true ∧ ∃ C dd, cls = .ref C ∧ d = some dd ∧
  (σ.length = m → ∀ a, H a = none → ts a { nx := fun σ' H' => H' a = none → D.nx (σ'.set i none) (upd H' a (ExO a C dd)), rt := fun _ _ => False } (σ.set i (some (.ref a))) H)
section
variable {X : Cx} {x1 x2 n : Str} {C1 C2 : Addr} {i kt : Nat} {body suite : List Stmt} {b₀ : Stmt} {q1 q2 qt pos pos' : Pos} {tb : WX → TS} {ts : Addr → TS}
theorem ps_try2 (hs : X.stack = X.env :: X.outer) (hf : X.env.frame = some X.env.locals) (hex : X.ex = []) (hN : X.N.Nodup) (hi : X.N[i]? = some n) (hln : X.env.kindOf n = some .local) (g1 : Gl X x1) (m1 : X.mg x1 = some (.ref C1)) (g2 : Gl X x2) (m2 : X.mg x2 = some (.ref C2)) (d1 : (x1 == ("__debug__" : Str)) = false) (d2 : (x2 == ("__debug__" : Str)) = false)
    (hb : ∀ (W : WX) (pn : List (Addr × Obj)) (xe : Value → Shared → Prop), Takes (X.tr pn xe) W → PSs (X.tr pn xe) body (tb W))
    (hsu : ∀ (a : Addr) (oe : Obj) (pn : List (Addr × Obj)), PSs (X.suite a ((a, oe) :: pn)) (b₀ :: suite) (ts a))
    (he1 : starEach [.Name x1 q1, .Name x2 q2] X.env = [(false, eval (.Name x1 q1) X.env), (false, eval (.Name x2 q2) X.env)] := by rfl) :
    PS X (.Try body [.ExceptHandler (some (.Tuple [.Name x1 q1, .Name x2 q2] kt qt)) (some n) (b₀ :: suite) pos'] [] [] pos) (fun D σ H => tb (wTw X.K (.ref C1) (.ref C2) i X.N.length ts D) D σ H) := by
  refine ⟨fun pins s σ H D I h => ?_⟩
  have ok := I.ok
  have eF : X.A.frames = some (X.env :: X.outer) := ok.frames.trans (congrArg some hs)
  refine wpAny_Try_except (wpAny_mono ((hb (wTw X.K (.ref C1) (.ref C2) i X.N.length ts D) (X.pn ++ pins) (fun e t1 => wpAny (model X.prog X.w) X.A (noteFrame e X.env) (fun _ t2 => wpAny (model X.prog X.w) X.A (setFlight e none) (fun _ t3 => wpAny (model X.prog X.w) X.A (handleBy e X.env [.ExceptHandler (some (.Tuple [.Name x1 q1, .Name x2 q2] kt qt)) (some n) (b₀ :: suite) pos']) (SP X pins D) X.xe t3) X.xe t2) X.xe t1)
    (fun u s' xx => ?_)).run [] s σ H D (I.toTry _) h) (fun f t hsp => ?_) fun _ _ z => z)
  · obtain ⟨a, B, sI, pins', σ', H', cls, d, rfl, J', nb, up, sky, na, os, ag, hm, C, dd, rfl, rfl, hyes⟩ := xx
    have J : Inv X pins σ' H' sI := J'.ofTry ok
    have sky' : Sky B (X.env :: X.outer) a (Zc (.ref C) (some dd)) X.env.locals s'.heap := hs ▸ sky
    show wpAny (model X.prog X.w) X.A (noteFrame (.ref a) X.env) _ _ _
    refine Sky.land Zc.steady eF hf sky' fun h3 f3 up3 => ?_
    have J3 : Inv X pins σ' H' { s' with heap := h3 } := J.landed nb f3.1 (up.trans up3) os ag
    obtain ⟨o3, v3, g3, z3, e3⟩ := f3.there
    have nfr : a ∉ frs (X.env :: X.outer) := fun hm => by
      obtain ⟨_, o', e', hnf⟩ := f3.2.2.1.mem hm
      rw [g3] at e'
      cases e'
      exact hnf _ e3
    have nL : a ≠ X.env.locals := fun z => nfr (List.mem_filterMap.mpr ⟨X.env, List.mem_cons_self, hf.trans (congrArg some z.symm)⟩)
    have nF : a ∉ X.fs := fun hm => by
      obtain ⟨e, he, q⟩ := List.mem_filterMap.mp hm
      exact nfr (List.mem_filterMap.mpr ⟨e, .tail _ he, q⟩)
    have nI : sI.heap.get? a = none := by
      cases q : sI.heap.get? a with
      | none => rfl
      | some o =>
        have z := nb a o q (by rw [hs]; exact nfr)
        rw [f3.2.1] at z
        cases z
    have n0 : X.s_0.heap.get? a = none := by
      cases q : X.s_0.heap.get? a with
      | none => rfl
      | some o =>
        obtain ⟨o', z⟩ := J.base.there a o q (by rw [hex]; simp)
        rw [nI] at z
        cases z
    have nC : ∀ x c, X.env.cells.lookup x = some c → c ≠ a := fun x c q z => by
      obtain ⟨_, o, ho, _⟩ := J.cell x c q
      rw [z, nI] at ho
      cases ho
    have nP : ∀ p ∈ X.pn ++ pins, p.1 ≠ a := fun p hp z => by
      have q := (J.pin p hp).1
      rw [z, nI] at q
      cases q
    have S3 := J3.suite g3 e3 na nL nF
    refine PySem.W.exc_clause_as (wpAny_Tuple_spliced ?_)
    rw [he1]
    have KI := J3.kIn
    refine Calls.spliced_cons (ld_glob (X := X.suite a ((a, o3) :: (X.pn ++ pins))) S3 g1 m1 ?_ d1)
    refine Calls.spliced_cons (ld_glob (X := X.suite a ((a, o3) :: (X.pn ++ pins))) S3 g2 m2 ?_ d2)
    have kk : ∀ b o, h3.get? b = some o → (h3.push { cls := .type "tuple", data := .seq [Value.ref C1, Value.ref C2].toArray }).get? b = some o := fun b o e => Heap.get?_push_of_some _ e
    have new : (h3.push { cls := .type "tuple", data := .seq [Value.ref C1, Value.ref C2].toArray }).get? h3.objs.size = some { cls := .type "tuple", data := .seq [Value.ref C1, Value.ref C2].toArray } := Heap.get?_push_at rfl rfl
    have LT : PySem.W.Looks (model X.prog X.w) (h3.push { cls := .type "tuple", data := .seq [Value.ref C1, Value.ref C2].toArray }) (typeOf (.ref a)) (.ref C) := fun A Q E s k q => wpAny_typeOf_ref (k _ _ (kk _ _ g3)) (by rw [z3.1]; exact q)
    refine Calls.spliced_nil ⟨by rw [sizeLine_eq]; simp, true, PySem.W.exm_tup2 (KI.keeps kk) LT new hm, ?_⟩
    rw [if_pos rfl]
    have up3' : s'.heap.UpToSlots (h3.push { cls := .type "tuple", data := .seq [Value.ref C1, Value.ref C2].toArray }) := up3.trans (Heap.UpToSlots.of_keeps kk)
    refine HandSPX.lands_againZ (flying_more f3 kk) fun h4 f4 up4 => ?_
    have J4 : Inv X pins σ' H' { s' with heap := h4 } := J.landed nb f4.1 ((up.trans up3').trans up4) os ag
    obtain ⟨o4, v4, g4, z4, e4⟩ := f4.there
    have S4 := J4.suite g4 e4 na nL nF
    refine store_ok (X := X.suite a ((a, o4) :: (X.pn ++ pins))) (v := .ref a) S4 hN hi (.inl hln) rfl (fun s5 S5 => ?_) (.inr hln)
    refine wpAny_mono ((hsu a o4 (X.pn ++ pins)).run [] s5 _ H' _ S5 (hyes J.len a na)) (fun f s6 hsp => ?_) fun _ _ z => False.elim z
    match f, hsp with
    | .next, ⟨σ6, H6, S6, q6⟩ =>
      have P6 := (S6.pin (a, o4) (List.mem_append_left _ List.mem_cons_self)).2.1
      have I6 : Inv X ((a, o4) :: pins) σ6 H6 s6 := ⟨ok, S6.os, S6.bare, S6.base, S6.loc, S6.cell, S6.free, S6.freeC, fun p hp => S6.pin p (by
        rcases List.mem_append.mp hp with z | z
        · exact List.mem_append_left _ (.tail _ (List.mem_append_left _ z))
        · rcases List.mem_cons.mp z with z | z
          · rw [z]
            exact List.mem_append_left _ List.mem_cons_self
          · exact List.mem_append_left _ (.tail _ (List.mem_append_right _ z))), S6.hok, S6.len⟩
      refine gone_ok I6 hN hi hln fun s7 J7 => ?_
      have g7 := (J7.pin (a, o4) (List.mem_append_right _ List.mem_cons_self)).1
      have I7 : Inv X pins (σ6.set i none) H6 s7 := ⟨ok, J7.os, J7.bare, J7.base, J7.loc, J7.cell, J7.free, J7.freeC, fun p hp => J7.pin p (by
        rcases List.mem_append.mp hp with z | z
        · exact List.mem_append_left _ z
        · exact List.mem_append_right _ (.tail _ z)), J7.hok, J7.len⟩
      exact ⟨_, _, inv_track I7 P6 n0 nL nC nP g7 z4.1 z4.2 e4, q6 P6⟩
    | .brk, ⟨_, _, _, q6⟩ => exact q6.elim
    | .cont, ⟨_, _, _, q6⟩ => exact q6.elim
    | .ret u, ⟨_, _, _, _, _, q6⟩ => exact q6.elim
  · cases f with
    | next =>
      obtain ⟨τ, G, J, q⟩ := hsp
      exact wpAny_execs_nil ⟨τ, G, J.ofTry ok, q⟩
    | brk =>
      obtain ⟨τ, G, J, q⟩ := hsp
      exact ⟨τ, G, J.ofTry ok, q⟩
    | cont =>
      obtain ⟨τ, G, J, q⟩ := hsp
      exact ⟨τ, G, J.ofTry ok, q⟩
    | ret u =>
      obtain ⟨v, τ, G, J, r, q⟩ := hsp
      exact ⟨v, τ, G, J.ofTry ok, r, q⟩
end
end PK
namespace PK
open L2 PySem PySem.Spec PyProof.Rows
/-! ## _law_told of a lambda that raises BadNumber -/
def TTr (K : PySem.W.Frag) : (XK → Hp → VK → Prop) → Hp → VK → Prop := fun tl H Q => ∀ (H1 : Hp) (Q' : VK), Same H H1 →
  tl (fun cls d H' => cls = .ref (He.ga K "BadNumber") ∧ ∃ dd v, d = some dd ∧ H' dd = some (.xd [("value", v)]) ∧ ∀ t H'', Up H' H'' → H'' t = some (.tup [.str "number", v]) → Q (.ref t) H'') H1 Q'
/-- the classes told's clause names -/
structure ClsT (K : PySem.W.Frag) : Prop where
  m : PySem.W.exmAny K (.ref (He.ga K "BadNumber")) [.ref (He.ga K "PutError"), .ref (He.ga K "TooGreat")] = some true
abbrev toldN : List Str := ["_law_call", "_law_found", "_law_error", "e"]
section
variable {ι : Type} {Y : ι → Cx} {P : Program} {w : World} {K : PySem.W.Frag} {mg : Str → Option Value} {base : Heap} {k k' : Nat} {σ : L2.St} {H H' : Hp} {e c e1 e2 : Expr} {es : List Expr} {pos p p1 p2 : Pos} {x : Str} {R R1 : V → Hp → Prop} {a d : Addr} {v : V} {sp : Sp}
theorem dt_isN {j : Nat} (ha : ER Y σ H e fun v' _ => v' = .ref a) : DT Y σ H (.Compare e [.Is] [.Constant .none j p] pos) false := by
  obtain ⟨t1, h1, q1⟩ := ha
  refine ⟨_, fun i => pt_cmpR op_isN (h1 i) pe_non (by rfl), fun H1 u Q q => q1 H1 u _ fun v' H2 u2 ev => ?_⟩
  subst ev
  exact ⟨rfl, _, rfl, q H2 u2⟩
/-- f(e), e anything -/
theorem er_f1 (F : Fm P w K mg base k Y) (G : FnC P w K mg base k' x sp) (ha : ER Y σ H e R1) (hsp : ∀ v H1, Up H H1 → R1 v H1 → ∀ Q : VK, (∀ v H2, Up H1 H2 → R v H2 → Q v H2) → sp [v] H1 Q E0) (hk : k' ≤ k := by decide)
    (hg : ∀ i, Gl (Y i) x := by intro _; rfl) (hdb : (x == ("__debug__" : Str)) = false := by decide) (he : ∀ i, starEach [e] (Y i).env = (false, eval e (Y i).env) :: starEach [] (Y i).env := by intro _; rfl)
    (hpl : ∀ i, (backTo pos (starEach [] (Y i).env)).any (·.1) = false := by intro _; rfl) : ∃ t : TE, (∀ i, PE (Y i) (.Call (.Name x p) [e] [] pos) t) ∧ ∀ H1, Up H H1 → ∀ Q : VK, (∀ v H2, Up H1 H2 → R v H2 → Q v H2) → t σ H1 Q := by
  obtain ⟨f, fd, ps, G, kp, gm, bd⟩ := G
  obtain ⟨t1, h1, q1⟩ := ha
  refine ⟨tCall sp [] E0 (tCons t1 tNil), fun i => ?_, fun H1 e1 Q q => q1 H1 e1 _ fun v H2 e2' hv => ?_⟩
  · have G' : FnOk (Y i).prog (Y i).w (Y i).K (Y i).mg (Y i).base CX0 k' f fd ps sp := by
      rw [F.hP i, F.hw i, F.hK i, F.hmg i, F.hb i]
      exact G
    exact pe_call G' ((F.rm i).mono hk) (hg i) (by rw [F.hmg i]; exact gm) (by rw [F.hK i]; exact kp) (by rw [F.hK i]; exact bd) .nil pass0 (pa_cons (h1 i) pa_nil (he i)) hdb (he i) (hpl i)
  · show sp ([v] ++ []) H2 Q E0
    rw [List.append_nil]
    exact hsp v H2 (e1.trans (up_of e2')) hv Q fun z H4 e4 h4 => q z H4 ((up_of e2').trans e4) h4
end
theorem told_ok {X : Cx} {g : Addr} {cdg : Value} {q : Str} (T : Txt X.w X.K X.mg) (V : ErrT X.K X.mg) (CT : ClsT X.K) (hr : Room 3 X.A) : LamX.GivesTo X toldN "_law_told" (defScope s_law_told) g cdg (defBody s_law_told) "_law_call" q (TTr X.K) := by
  intro f c' s H Q tl act hc h
  obtain ⟨Y, eY⟩ : ∃ Y : Unit → Cx, Y = fun _ => (cxOf C8.CX0 X.prog X.w X.K X.mg X.base toldN "_law_told" (defScope s_law_told) g cdg X.A X.stack s H C8.E0).nox := ⟨_, rfl⟩
  have key : DSs Y { nx := fun _ H' => Q .non H', rt := Q } (start toldN [.ref f]) H (defBody s_law_told) := by
    have F : Fm X.prog X.w X.K X.mg X.base 2 Y := by
      subst eY
      exact ⟨fun _ => rfl, fun _ => rfl, fun _ => rfl, fun _ => rfl, fun _ => rfl, fun _ => rfl, fun _ => hr.deeper _, fun _ => by
        show toldN.Nodup
        decide +kernel⟩
    subst eY
    show DSs _ _ [some (.ref f), none, none, none] _ _
    refine ds_unp (K := X.K) (js := [1, 2]) F (de_tup (xa_d (de_non (K := X.K)) (xa_d (de_non (K := X.K)) xa_nil))) (gn_cons F 1 (gn_cons F 2 gn_nil)) fun vs H1 u1 hv => ?_
    obtain ⟨v1, v2, rfl, g1, g2⟩ := dpa2 hv
    show DSs _ _ [some (.ref f), some v1, some v2, none] _ _
    refine ds_cons ⟨_, fun _ => ps_try2 (X := (cxOf C8.CX0 X.prog X.w X.K X.mg X.base toldN "_law_told" (defScope s_law_told) g cdg X.A X.stack s H C8.E0).nox) (i := 3) (x1 := "PutError") (x2 := "TooGreat")
      (tb := fun W D σ H => ∃ Ech : XK, (∀ cls d σ' H', Ech cls d H' → W cls d σ' H') ∧ σ[0]? = some (some (.ref f)) ∧ H c' = some (LamX.CodeO c' q) ∧ ∀ Q' : VK, tl Ech H Q')
      rfl rfl rfl (by show toldN.Nodup; decide +kernel) rfl rfl rfl (m_PutError T) rfl (m_TooGreat T) (by decide) (by decide) (fun W pn xe tk => ⟨fun pins s' σ H' D I h' => ?_⟩) (fun a oe pn => pss_one (ps_set (i := 2) (by show toldN.Nodup; decide +kernel) rfl (.inl rfl) (pe_var (i := 3) rfl (.inl rfl) (by decide) (by decide)) rfl (.inr rfl))), ?_⟩
    · obtain ⟨Ech, hW, h1, h2, h3⟩ := h'
      have hp := act W pn xe Ech ⟨445, 21, 445, 30⟩ ⟨445, 21, 445, 32⟩ tk hW
      have hq := pss_one (ps_set (i := 1) (x := "_law_found") (pos := ⟨445, 8, 445, 32⟩) (pos' := ⟨445, 8, 445, 18⟩) (by show toldN.Nodup; decide +kernel) rfl (.inl rfl) hp rfl (.inl rfl))
      exact hq.run pins s' σ H' D I ⟨h1, h2, h3 _⟩
    · refine ⟨_, fun cls d σ' H' hh => ?_, rfl, u1 _ _ hc, fun Q' => h H1 Q' u1⟩
      obtain ⟨rfl, dd, v, rfl, hd, hq⟩ := hh
      refine ⟨CT.m, _, dd, rfl, rfl, fun hlen a ha => ?_⟩
      obtain ⟨w0, w1, w2, w3, rfl⟩ : ∃ w0 w1 w2 w3, σ' = [w0, w1, w2, w3] := by
        match σ', hlen with
        | [a, b, c, d], _ => exact ⟨a, b, c, d, rfl⟩
      refine ⟨.ref a, rfl, fun _ => ?_⟩
      show DSs _ _ [w0, w1, some (.ref a), none] (upd H' a (ExO a (He.ga X.K "BadNumber") dd)) _
      have hda : dd ≠ a := ne_of_none hd ha
      have hA : upd H' a (ExO a (He.ga X.K "BadNumber") dd) a = some (ExO a (He.ga X.K "BadNumber") dd) := upd_same
      have hD : upd H' a (ExO a (He.ga X.K "BadNumber") dd) dd = some (.xd [("value", v)]) := by
        rw [upd_ne hda]
        exact hd
      obtain ⟨t1, c1, c2⟩ := dt_isN (pos := ⟨448, 27, 448, 45⟩) (p := ⟨448, 41, 448, 45⟩) (j := 0) (er_v (Y := fun _ : Unit => (cxOf C8.CX0 X.prog X.w X.K X.mg X.base toldN "_law_told" (defScope s_law_told) g cdg X.A X.stack s H C8.E0).nox) (H := upd H' a (ExO a (He.ga X.K "BadNumber") dd)) (σ := [w0, w1, some (.ref a), none]) (x := "_law_error") (pos := ⟨448, 27, 448, 37⟩) (R := fun v' _ => v' = .ref a) 2 fun _ _ => rfl)
      obtain ⟨t2, c3, c4⟩ := er_f1 (R := fun v' H2 => ∃ t, v' = .ref t ∧ H2 t = some (.tup [.str "number", v])) (pos := ⟨448, 51, 448, 78⟩) (p := ⟨448, 51, 448, 66⟩) F (f_error_word T V) (er_v (H := upd H' a (ExO a (He.ga X.K "BadNumber") dd)) (σ := [w0, w1, some (.ref a), none]) (x := "_law_error") (pos := ⟨448, 67, 448, 77⟩) (R := fun v' H2 => v' = .ref a ∧ H2 a = some (ExO a (He.ga X.K "BadNumber") dd) ∧ H2 dd = some (.xd [("value", v)])) 2 fun H2 u2 => ⟨rfl, u2 _ _ hA (fun _ z => by cases z), u2 _ _ hD (fun _ z => by cases z)⟩) (fun v' H2 u2 hv' Q q => by
        obtain ⟨rfl, z1, z2⟩ := hv'
        exact ⟨a, dd, v, rfl, z1, z2, fun t H3 u3 ht => q _ _ u3 ⟨t, rfl, ht⟩⟩)
      refine ds_cons ⟨tRet (tIf t1 (fun _ _ _ => False) t2), fun i => ps_ret (pe_ifExp (c1 i) pe_no (c3 i)), ?_⟩
      refine c2 _ (Up.refl _) _ fun H2 u2 => iteF (c4 _ (up_of u2) _ fun v' H3 u3 hv' => ?_)
      obtain ⟨t, rfl, ht⟩ := hv'
      refine hq t H3 (fun b o hb n => ?_) ht
      refine u3 _ _ (u2 _ _ ?_) n
      rw [upd_ne (ne_of_none hb ha)]
      exact hb
  subst eY
  obtain ⟨t, ht, h⟩ := key
  exact ⟨t, ht (), h⟩
end PK
namespace PK
open L2 PySem PySem.Spec PyProof.Rows
/-! ## all but dicts of four entries and the tables stays -/
def XN (H H' : Hp) : Prop := ∀ a o, H a = some o → (∀ kvs, o = .dK kvs → kvs.length ≠ 4) → (∀ ps, o ≠ .tbl ps) → H' a = some o
theorem XN.refl (H : Hp) : XN H H := fun _ _ h _ _ => h
theorem XN.trans {H H1 H2 : Hp} (a : XN H H1) (b : XN H1 H2) : XN H H2 := fun c o h n m => b c o (a c o h n m) n m
theorem xn_up {H H' : Hp} (e : Up H H') : XN H H' := fun a o h n _ => e a o h n
theorem xn_ext {H H' : Hp} (e : LamX.ExtN H H') : XN H H' := fun a o h _ m => e a o h m
section
variable {K : PySem.W.Frag} {H H' : Hp} {a : Addr} {xs : List V}
theorem xn_t (e : XN H H') (h : SqT K H a xs) : SqT K H' a xs := by
  rcases h with (h | ⟨o, h⟩) | h
  · exact .inl (.inl (e _ _ h (fun _ z => by cases z) fun _ z => by cases z))
  · exact .inl (.inr ⟨o, e _ _ h (fun _ z => by cases z) fun _ z => by cases z⟩)
  · exact .inr h
theorem dp_xn (e : XN H H') {d : PyData} {v : V} (n : noL d = true) (h : Dp K H v d) : Dp K H' v d :=
  dp_upT ⟨fun a xs q => e _ _ q (fun _ z => by cases z) (fun _ z => by cases z), fun a o u q => e _ _ q (fun _ z => by cases z) (fun _ z => by cases z)⟩ _ _ n h
theorem tabs_up {T : List (Addr × Str)} (t : LamX.Tabs T H) (e : Up H H') : LamX.Tabs T H' := fun p hp => by
  obtain ⟨ps, h1, h2, h3⟩ := t p hp
  refine ⟨ps, e _ _ h1 (fun _ z => by cases z), h2, fun pos cv hc => ?_⟩
  obtain ⟨c, e1, e2⟩ := h3 pos cv hc
  exact ⟨c, e1, e _ _ e2 fun _ z => by unfold LamX.CodeO at z; cases z⟩
end
/-! ## an expression by whatever reading holds there -/
section
variable {ι : Type} (Y : ι → Cx)
def AE (e : Expr) : TE := fun σ H Q => ∃ (t : TE) (Q0 : VK), (∀ i, PE (Y i) e t) ∧ t σ H Q0 ∧ ∀ v H', Q0 v H' → Q v H'
def AT (e : Expr) : TT := fun σ H Q => ∃ (t : TT) (Q0 : Bool → Hp → Prop), (∀ i, PT (Y i) e t) ∧ t σ H Q0 ∧ ∀ v H', Q0 v H' → Q v H'
end
section
variable {ι : Type} {Y : ι → Cx} {P : Program} {w : World} {K : PySem.W.Frag} {mg : Str → Option Value} {base : Heap} {k k' : Nat} {σ : L2.St} {H H' : Hp} {a b c e : Expr} {es : List Expr} {pos p : Pos} {d d1 d2 : PyData} {x : Str} {R : V → Hp → Prop} {D : Ends} {rest body : List Stmt} {Q : VK} {b1 : Bool} {QT : Bool → Hp → Prop} {y z : Str}
theorem pe_ae (i : ι) : PE (Y i) e (AE Y e) := ⟨fun pins s σ H Q I h => by
  obtain ⟨t, Q0, ht, h, m⟩ := h
  exact thn ((ht i).run pins s σ H Q0 I h) fun u s1 ⟨v, H1, I1, r1, q1⟩ => ⟨v, H1, I1, r1, m _ _ q1⟩⟩
theorem pt_at (i : ι) : PT (Y i) e (AT Y e) := ⟨fun pins s σ H Q I h => by
  obtain ⟨t, Q0, ht, h, m⟩ := h
  exact thn ((ht i).run pins s σ H Q0 I h) fun u s1 ⟨H1, I1, q1⟩ => ⟨H1, I1, m _ _ q1⟩⟩
theorem AE.mono {Q' : VK} (h : AE Y e σ H Q) (m : ∀ v H', Q v H' → Q' v H') : AE Y e σ H Q' := by
  obtain ⟨t, Q0, ht, h, m0⟩ := h
  exact ⟨t, Q0, ht, h, fun v H' q => m _ _ (m0 _ _ q)⟩
theorem AT.mono {Q' : Bool → Hp → Prop} (h : AT Y e σ H QT) (m : ∀ v H', QT v H' → Q' v H') : AT Y e σ H Q' := by
  obtain ⟨t, Q0, ht, h, m0⟩ := h
  exact ⟨t, Q0, ht, h, fun v H' q => m _ _ (m0 _ _ q)⟩
theorem ae_er (h : ER Y σ H e R) (q : ∀ v H', Same H H' → R v H' → Q v H') : AE Y e σ H Q := by
  obtain ⟨t, ht, h⟩ := h
  exact ⟨t, Q, ht, h H (Up.refl H) Q q, fun _ _ z => z⟩
theorem at_dt (h : DT Y σ H e b1) (q : ∀ H', Same H H' → QT b1 H') : AT Y e σ H QT := by
  obtain ⟨t, ht, h⟩ := h
  exact ⟨t, QT, ht, h H (Up.refl H) QT q, fun _ _ z => z⟩
/-- a comparison, both sides as they come -/
theorem at_cmp {op : CmpOp} {z : Bool} (hr : CmpR Y K op b d1 d2 z) (h : AE Y a σ H fun v H1 => AE Y b σ H1 fun u H2 => Dp K H2 v d1 ∧ Dp K H2 u d2 ∧ QT z H2) : AT Y (.Compare a [op] [b] pos) σ H QT := by
  obtain ⟨hm, r, ho, q⟩ := hr
  refine ⟨tTest (tOp r (AE Y a) (AE Y b)), QT, fun i => pt_cmpR (ho i) (pe_ae i) (pe_ae i) (hm i), h.mono fun v H1 h1 => AE.mono h1 fun u H2 h2 => ?_, fun _ _ z => z⟩
  obtain ⟨h3, h4, h5⟩ := h2
  exact q v u H2 h3 h4 _ ⟨z, rfl, h5⟩
theorem at_or2 {c2 : Expr} (h : AT Y c σ H fun b H1 => b = false ∧ AT Y c2 σ H1 QT) : AT Y (.BoolOp .Or [c, c2] pos) σ H QT :=
  ⟨tOr (AT Y c) (AT Y c2), QT, fun i => (pw_or (pt_at i) (pw_or1 (pt_at i))).pt, h.mono fun b H1 ⟨e, q⟩ => by
    subst e
    exact iteF q, fun _ _ z => z⟩
/-- if c: return False: c comes to false -/
theorem ds_guardA (h : AT Y c σ H fun b H1 => b = false ∧ DSs Y D σ H1 rest) : DSs Y D σ H (.If c body [] pos :: rest) := by
  refine ds_cons ⟨tIfS (AT Y c) (fun D σ H => DSs Y D σ H body) fun D σ H => DSs Y D σ H [], fun l => ps_if (pt_at l) (pss_rest l) (pss_rest l), h.mono fun b H1 ⟨e, q⟩ => ?_⟩
  subst e
  exact iteF (ds_nil q)
end

/-! ## _law_told(lambda: _law_turning[..]) -/
section
variable {P : Program} {w : World} {K : PySem.W.Frag} {mg : Str → Option Value} {base : Heap} {A : Around} {outer : List Env} {s_ : Shared} {H0 : Hp} {E : XK} {cL PL : Addr}
abbrev lamQ (K : PySem.W.Frag) (cL : Addr) (A : Around) (s_ : Shared) : Str := (envOfC "law" (defScope s_law) s_.heap.objs.size (He.ga K "law") (.ref cL)).qual ++ "<lambda>"
structure LawT (P : Program) (w : World) (K : PySem.W.Frag) (mg : Str → Option Value) : Prop where
  t : Txt w K mg
  u : TailT P K mg
  v : ErrT K mg
  c : ClsT K
theorem told_get (T : LawT P w K mg) (TB : LamX.TabB base mg cL PL) (F : Fm P w K mg base 12 (lawY P w K mg base (.ref cL) A outer s_ H0 E)) {body : Expr} {scope : Scope} {params : Arguments} {p lpos pos : Pos} {t : XK → TE} {σ : L2.St} {H : Hp} {Q : VK}
    (hbody : ∀ (A' : Around) (o' : List Env) (s' : Shared) (H' : Hp) (E' : XK) (f c' : Addr), Room 4 (A'.deeper (LamX.lamEnv (lawY P w K mg base (.ref cL) A outer s_ H0 E ()) scope s'.heap.objs.size f c')) → PE (LamX.lamCx (lawY P w K mg base (.ref cL) A outer s_ H0 E ()) A' o' s' H' E' scope f c') body (t E'))
    (hT : LamX.Tabs [(PL, lamQ K cL A s_)] H) (hq : ∀ H1, LamX.ExtN H H1 → LamX.Tabs [(PL, lamQ K cL A s_)] H1 → TTr K (fun E' H' Q' => t E' σ H' Q') H1 Q)
    (L : LamX.LamS (defScope s_law) scope := by exact LamX.lamS_by (by decide +kernel)) (hdef : defaultsOf params (lawY P w K mg base (.ref cL) A outer s_ H0 E ()).env = ([], []) := by rfl)
    (hbind : ∀ (q : Str) (cl : List (Str × Addr)) (pm cv ctv : Value), bindArgs (PySem.W.kla_fn "<lambda>" q params body scope cl pm cv ctv) ⟨[], []⟩ = pure [] := by intro _ _ _ _ _; rfl) :
    AE (lawY P w K mg base (.ref cL) A outer s_ H0 E) (.Call (.Name "_law_told" p) [.Lambda params body scope lpos] [] pos) σ H Q := by
  obtain ⟨fd, hF⟩ := h_law_told T.t
  obtain ⟨oc, od, dV, kV, doc, pm, an, cdv, ct, osl, rfl, lk, hcd, hdf, _⟩ := hF.ex
  obtain rfl : dV = .none := by
    rcases hdf with ⟨_, z⟩ | ⟨z, _⟩
    · exact z
    · exact absurd rfl z
  have F0 : Fm P w K mg base 12 (lawY P w K mg base (.ref cL) A outer s_ H0 E) := F
  refine ⟨LamX.tLam [(PL, lamQ K cL A s_)] (TTr K) t, Q, fun i => ?_, ⟨hT, hq⟩, fun _ _ z => z⟩
  exact LamX.pe_lamcall (X := lawY P w K mg base (.ref cL) A outer s_ H0 E ()) (Ng := toldN) (a := "_law_call") (k := 4) (c := cL) (P := PL) rfl (m_law_told T.t) hF.kp lk hcd (hF.bindsN fun _ _ _ _ _ _ us hl => match us, hl with | [_], _ => rfl)
    ⟨rfl, rfl, rfl, by decide +kernel, rfl, by decide +kernel, by decide +kernel⟩ rfl (.inl rfl) (told_ok T.t T.v T.c ((F.rm ()).mono (by decide))) TB rfl (.head _) (fun p hp _ => by
      rcases List.mem_cons.mp hp with rfl | z
      · rfl
      · cases z) ((F.rm ()).mono (by decide)) L hdef hbind hbody
end
end PK
namespace PK
open L2 PySem PySem.Spec PyProof.Rows
section
variable {P : Program} {w : World} {K : PySem.W.Frag} {mg : Str → Option Value} {base : Heap} {A : Around} {outer : List Env} {s_ : Shared} {H0 : Hp} {E : XK} {cL PL : Addr} {σ : L2.St} {H : Hp} {Q : VK}
/-- _law_told(lambda: _law_turning[_law_far]) -/
theorem told_far (T : LawT P w K mg) (TB : LamX.TabB base mg cL PL) (F : Fm P w K mg base 12 (lawY P w K mg base (.ref cL) A outer s_ H0 E)) {scope : Scope} {params : Arguments} {p lpos pos q1 q2 q3 : Pos} {pt dx : Addr} {tv v : V}
    (hT : LamX.Tabs [(PL, lamQ K cL A s_)] H) (h3 : σ[3]? = some (some (.ref pt))) (h4 : σ[4]? = some (some v)) (hp : H pt = some (.ins (He.ga K "Script") dx [("steps", tv)])) (ht : Dp K H tv (.tuple turnS)) (hv : ∀ H, NumBad 2 v H)
    (hq : ∀ t H', XN H H' → LamX.Tabs [(PL, lamQ K cL A s_)] H' → H' t = some (.tup [.str "number", v]) → Q (.ref t) H')
    (v3 : scope.names.lookup ("_law_turning" : Str) = some NameKind.free := by decide +kernel) (v4 : scope.names.lookup ("_law_far" : Str) = some NameKind.free := by decide +kernel)
    (L : LamX.LamS (defScope s_law) scope := by exact LamX.lamS_by (by decide +kernel)) (hdef : defaultsOf params (lawY P w K mg base (.ref cL) A outer s_ H0 E ()).env = ([], []) := by rfl)
    (hbind : ∀ (q : Str) (cl : List (Str × Addr)) (pm cv ctv : Value), bindArgs (PySem.W.kla_fn "<lambda>" q params (.Subscript (.Name "_law_turning" q1) (.Name "_law_far" q2) q3) scope cl pm cv ctv) ⟨[], []⟩ = pure [] := by intro _ _ _ _ _; rfl) :
    AE (lawY P w K mg base (.ref cL) A outer s_ H0 E) (.Call (.Name "_law_told" p) [.Lambda params (.Subscript (.Name "_law_turning" q1) (.Name "_law_far" q2) q3) scope lpos] [] pos) σ H Q := by
  obtain ⟨fd, G, bd⟩ := gi_ok (P := P) (base := base) T.t T.u
  refine told_get T TB F (t := fun E' => tGet (He.ga K "Script") (spGI K) E' (tVar 3) (tVar 4)) (fun A' o' s' H' E' f c' hr => ?_) hT (fun H1 e1 hT1 => ?_) L hdef hbind
  · exact pe_get (X := LamX.lamCx (lawY P w K mg base (.ref cL) A outer s_ H0 E ()) A' o' s' H' E' scope f c') (k := 3) G hr bd (i_Script T.t) T.u.gf (takes_of rfl rfl rfl rfl) (fun _ _ _ _ h => h) (pe_var (i := 3) rfl (.inr (.inr v3)) (by decide) (by decide)) (pe_var (i := 4) rfl (.inr (.inr v4)) (by decide) (by decide)) (fun _ _ => rfl)
  · intro H2 Q' e2
    have x2 : XN H H2 := (xn_ext e1).trans (xn_up (up_of e2))
    refine ⟨.ref pt, h3, v, h4, pt, dx, _, rfl, x2 _ _ hp (fun _ z => by cases z) (fun _ z => by cases z), pt, dx, tv, v, turnS, rfl, x2 _ _ hp (fun _ z => by cases z) (fun _ z => by cases z), dp_xn x2 rfl ht, .inr ⟨hv _, fun d H' e3 _ hd => ⟨rfl, d, v, rfl, hd, fun t H'' u4 ht' => ?_⟩⟩⟩
    exact hq t H'' ((x2.trans (xn_up (up_of e3))).trans (xn_up u4)) (tabs_up (tabs_up hT1 (up_of (e2.trans e3))) u4) ht'
/-- _law_told(lambda: _law_turning[i:j]) -/
theorem told_cut (T : LawT P w K mg) (TB : LamX.TabB base mg cL PL) (F : Fm P w K mg base 12 (lawY P w K mg base (.ref cL) A outer s_ H0 E)) {scope : Scope} {params : Arguments} {p lpos pos q1 q2 q3 q4 q5 : Pos} {pt dx : Addr} {tv : V} {i j : Int} {k1 k2 : Nat}
    (hT : LamX.Tabs [(PL, lamQ K cL A s_)] H) (h3 : σ[3]? = some (some (.ref pt))) (hp : H pt = some (.ins (He.ga K "Script") dx [("steps", tv)])) (ht : Dp K H tv (.tuple turnS))
    (hq : ∀ t v H', XN H H' → LamX.Tabs [(PL, lamQ K cL A s_)] H' → H' t = some (.tup [.str "number", v]) → Q (.ref t) H')
    (v3 : scope.names.lookup ("_law_turning" : Str) = some NameKind.free := by decide +kernel)
    (L : LamX.LamS (defScope s_law) scope := by exact LamX.lamS_by (by decide +kernel)) (hdef : defaultsOf params (lawY P w K mg base (.ref cL) A outer s_ H0 E ()).env = ([], []) := by rfl)
    (hbind : ∀ (q : Str) (cl : List (Str × Addr)) (pm cv ctv : Value), bindArgs (PySem.W.kla_fn "<lambda>" q params (.Subscript (.Name "_law_turning" q1) (.Slice (some (.Constant (.int i) k1 q4)) (some (.Constant (.int j) k2 q5)) none q2) q3) scope cl pm cv ctv) ⟨[], []⟩ = pure [] := by intro _ _ _ _ _; rfl) :
    AE (lawY P w K mg base (.ref cL) A outer s_ H0 E) (.Call (.Name "_law_told" p) [.Lambda params (.Subscript (.Name "_law_turning" q1) (.Slice (some (.Constant (.int i) k1 q4)) (some (.Constant (.int j) k2 q5)) none q2) q3) scope lpos] [] pos) σ H Q := by
  obtain ⟨fd, G, bd⟩ := gi_ok (P := P) (base := base) T.t T.u
  refine told_get T TB F (t := fun E' => tGetS (He.ga K "Script") (spGI K) E' (tVar 3)) (fun A' o' s' H' E' f c' hr => ?_) hT (fun H1 e1 hT1 => ?_) L hdef hbind
  · exact pe_getS (X := LamX.lamCx (lawY P w K mg base (.ref cL) A outer s_ H0 E ()) A' o' s' H' E' scope f c') (k := 3) G (hr.mono (by decide)) bd (i_Script T.t) T.u.gf T.u.sq (takes_of rfl rfl rfl rfl) (fun _ _ _ _ h => h) (pe_var (i := 3) rfl (.inr (.inr v3)) (by decide) (by decide))
  · intro H2 Q' e2
    have x2 : XN H H2 := (xn_ext e1).trans (xn_up (up_of e2))
    have hp2 := x2 _ _ hp (fun _ z => by cases z) (fun _ z => by cases z)
    refine ⟨.ref pt, h3, pt, dx, _, rfl, hp2, fun sl hs => ?_⟩
    have eS : Same H2 (upd H2 sl (SlO sl)) := same_new hs
    refine ⟨pt, dx, tv, .ref sl, turnS, rfl, eS _ _ hp2, dp_xn (x2.trans (xn_up (up_of eS))) rfl ht, .inr ⟨.inr (.inr ⟨sl, rfl, upd_same⟩), fun d H' e3 _ hd => ⟨rfl, d, .ref sl, rfl, hd, fun t H'' u4 ht' => ?_⟩⟩⟩
    exact hq t _ H'' (((x2.trans (xn_up (up_of eS))).trans (xn_up (up_of e3))).trans (xn_up u4)) (tabs_up (tabs_up hT1 (up_of ((e2.trans eS).trans e3))) u4) ht'
end
end PK
namespace PK
open L2 PySem PySem.Spec PyProof.Rows
section
variable {ι : Type} {Y : ι → Cx} {P : Program} {w : World} {K : PySem.W.Frag} {mg : Str → Option Value} {base : Heap} {k k' : Nat} {σ : L2.St} {H H' : Hp} {a b c e : Expr} {es : List Expr} {pos p : Pos} {d d1 d2 : PyData} {x : Str} {Q : VK} {y z : Str} {i : Int}
/-- a[i], a a tuple -/
theorem ae_ix {j : Nat} (F : Fm P w K mg base k Y) (h : AE Y a σ H fun v H1 => ∃ t xs u, v = .ref t ∧ SqT K H1 t xs ∧ atI xs i = some u ∧ Q u H1) : AE Y (.Subscript a (.Constant (.int i) j p) pos) σ H Q := by
  refine ⟨tOp (rIxT K) (AE Y a) fun _ H Q => Q (.int i) H, Q, fun l => ?_, h.mono fun v H1 ⟨t, xs, u, e1, e2, e3, q⟩ => ⟨t, xs, i, u, e1, rfl, e2, e3, q⟩, fun _ _ z => z⟩
  have q := pe_ix (X := Y l) (a := a) (pos := pos) (ix_tup (X := Y l)) (pe_ae l) (pe_int (i := i) (j := j) (pos := p)) fun _ _ => rfl
  rw [F.hK l] at q
  exact q
/-- repr(e), e a pair -/
theorem ae_repr (F : Fm P w K mg base k Y) (G : ∀ i, (Y i).A.guards = some []) (N : base.NoDigits) (g : mg "repr" = none) (hl : LfT d z) (h : AE Y a σ H fun v H1 => Dp K H1 v (.tuple [.str x, d]) ∧ Q (.str (pairT x z)) H1) (hx : (reprText x).length ≤ 100 := by decide +kernel) (hg : ∀ i, Gl (Y i) "repr" := by intro _; rfl)
    (he : ∀ i, starEach [a] (Y i).env = (false, eval a (Y i).env) :: starEach [] (Y i).env := by intro _; rfl) (hpl : ∀ i, (backTo pos (starEach [] (Y i).env)).any (·.1) = false := by intro _; rfl) : AE Y (.Call (.Name "repr" p) [a] [] pos) σ H Q := by
  refine ⟨tCB (rReprN K x d z) (tCons (AE Y a) tNil), Q, fun i => ?_, h.mono fun v H1 ⟨h1, q⟩ => ⟨v, rfl, h1, q⟩, fun _ _ z => z⟩
  have q := cr_reprN (X := Y i) (x := x) (G i) (rm64 (F.rm i)) (by rw [F.hb i]; exact N) hl hx
  rw [F.hK i] at q
  exact pe_callB q (hg i) (by rw [F.hmg i]; exact g) (by decide +kernel) (pa_cons (pe_ae i) pa_nil (he i)) (by decide) (by decide) (he i) (hpl i)
/-- for x in a tuple, the tables may grow -/
theorem ds_forA {src : Expr} {body rest : List Stmt} {D : Ends} {px : Pos} (j : Nat) (F : Fm P w K mg base k Y)
    (h : AE Y src σ H fun v H1 => ∃ t xs, v = .ref t ∧ SqT K H1 t xs ∧ ∃ Pv : Nat → L2.St → Hp → Prop, Pv 0 σ H1 ∧ (∀ i σ' H', Pv i σ' H' → SqT K H' t xs) ∧
      (∀ i v σ' H', i < xs.length → xs[i]? = some v → Pv i σ' H' → DSs Y { cont Y D rest with nx := Pv (i + 1), ct := Pv (i + 1), bk := (cont Y D rest).nx } (σ'.set j (some v)) H' body) ∧ ∀ σ' H', Pv xs.length σ' H' → DSs Y D σ' H' rest)
    (hi : ∀ l, (Y l).N[j]? = some x := by intro _; rfl) (hx : ∀ l, Loc (Y l).env.scope x := by intro _; first | exact Or.inl rfl | exact Or.inr rfl) (hf : ∀ l, (Y l).fn x = true ∨ (Y l).env.scope.names.lookup x = some .local := by intro _; first | exact .inl rfl | exact .inr rfl)
    (hp : ∀ i, PassesOwn (model (Y i).prog (Y i).w) (Y i).A (Y i).env (Y i).xe := by intro _; exact PassesOwn.never) (hfs : ∀ i v, foldedSetIterable src (Y i).env v = pure v := by intro _ _; rfl) : DSs Y D σ H (.For (.Name x px) src body [] pos :: rest) := by
  refine ds_cons ⟨tFor (iTup K (AE Y src)) (gName j) fun D σ H => DSs Y D σ H body, fun i => ?_, ?_⟩
  · have q := pi_tup (X := Y i) (tg := .Name x px) (pe_ae (Y := Y) (e := src) i)
    rw [F.hK i] at q
    exact ps_for (hp i) (F.calm i) q (pg_name (F.nd i) (hi i) (hx i) (hf i)) (pss_rest i) (hfs i)
  · refine h.mono fun v H1 ⟨t, xs, e, hq, Pv, h0, hG, hs, hd⟩ => ⟨t, e, ⟨_, hq⟩, for_it walk_tup (g := gName j) (tb := fun D σ H => DSs Y D σ H body) (D := cont Y D rest) Pv h0 (fun i σ' H' _ z => hG i σ' H' z) (fun i y σ' H' H'' hi p hy => ?_) fun σ' H' p => hd σ' H' p⟩
    obtain ⟨rfl, hv⟩ := hy
    exact hs i y σ' _ hi hv p
theorem rep_ans {K : PySem.W.Frag} {H : Hp} : ∀ n : Nat, DpAll K H (List.replicate n [V.str "answered"]).flatten (ansN n)
  | 0 => .nil
  | n + 1 => .cons (.str _) (rep_ans n)
/-- ['answered'] * n -/
theorem de_ansN {n : Int} (ha : ER Y σ H a fun v H' => FL K H' v [.str "answered"]) (hb : DE Y K σ H b (.int n)) (h1 : -(2 ^ 63) ≤ n) (h2 : n < 1000) : DE Y K σ H (.BinOp a .Mult b pos) (.list (ansN n.toNat)) := by
  obtain ⟨t1, c1, q1⟩ := ha
  obtain ⟨t2, c2, q2⟩ := hb
  refine ⟨_, fun i => pe_op op_rep (c1 i) (c2 i), fun H1 e1 Q q => q1 H1 e1 _ fun v H2 e2 hv => q2 H2 (e1.trans (up_of e2)) _ fun u H3 e3 hu => ?_⟩
  obtain ⟨l, xs, rfl, hl, hx⟩ := hv
  cases hu
  obtain ⟨v1, rfl, hv1⟩ := dpa1 hx
  cases hv1
  refine ⟨l, n, _, rfl, rfl, e3 _ _ hl, h1, by omega, by rw [sizeLine_eq]; simp; omega, fun p hp => q _ _ ((e2.trans e3).trans (same_new hp)) ?_⟩
  exact .lst (SqL.of upd_same) (rep_ans _)
end
def farDs : List PyData := [.int ((farN : Nat) : Int), .int (0 - ((farN : Nat) : Int)), .int 2, .int (-1), .bool true]
theorem far_nat (i : Int) (h : i.natAbs ≤ farN) : i.natAbs < 10 ^ 4300 := Nat.lt_of_le_of_lt h farN_lt
theorem far_big : (2 : Int) ≤ ((farN : Nat) : Int) := by decide +kernel
theorem far_row {K : PySem.W.Frag} {H : Hp} {xs : List V} (h : DpAll K H xs farDs) {i : Nat} {v : V} (hi : xs[i]? = some v) : ∃ d z, (∀ H', Dp K H' v d) ∧ LfT d z ∧ (∀ H', NumBad 2 v H') ∧ noL d = true := by
  unfold farDs at h
  cases h with
  | cons h1 h =>
  cases h with
  | cons h2 h =>
  cases h with
  | cons h3 h =>
  cases h with
  | cons h4 h =>
  cases h with
  | cons h5 h =>
  cases h
  cases h1
  cases h2
  cases h3
  cases h4
  cases h5
  have big := far_big
  have int : ∀ n : Int, n.natAbs ≤ farN → ¬ (0 ≤ n ∧ n < 2) → ∃ d z, (∀ H', Dp K H' (.int n) d) ∧ LfT d z ∧ (∀ H', NumBad 2 (.int n) H') ∧ noL d = true := fun n h1 h2 =>
    ⟨.int n, _, fun _ => .int n, .int (far_nat n h1), fun _ => .inl ⟨n, rfl, h2⟩, rfl⟩
  rcases i with _ | _ | _ | _ | _ | i
  · cases hi
    exact int _ (by omega) (by omega)
  · cases hi
    exact int _ (by omega) (by omega)
  · cases hi
    exact int _ (by omega) (by omega)
  · cases hi
    exact int _ (by omega) (by omega)
  · cases hi
    exact ⟨.bool true, _, fun _ => .bl true, .bl true, fun _ => .inr (.inl ⟨true, rfl⟩), rfl⟩
  · simp at hi
section
variable {P : Program} {w : World} {K : PySem.W.Frag} {mg : Str → Option Value} {base : Heap} {A : Around} {outer : List Env} {s_ : Shared} {H0 : Hp} {E : XK} {cL PL : Addr} {H : Hp} {D : Ends}
theorem law_tail (T : LawT P w K mg) (TB : LamX.TabB base mg cL PL) (F : Fm P w K mg base 12 (lawY P w K mg base (.ref cL) A outer s_ H0 E)) (G : ∀ i, (lawY P w K mg base (.ref cL) A outer s_ H0 E i).A.guards = some []) (N : base.NoDigits) (hT : LamX.Tabs [(PL, lamQ K cL A s_)] H) (hrt : ∀ H', D.rt (.bl true) H')
    (c0 c1 c2 c5 c6 c7 c8 c9 c10 c11 c12 c13 c14 c15 : Option V) : DSs (lawY P w K mg base (.ref cL) A outer s_ H0 E) D [c0, c1, c2, none, none, c5, c6, c7, c8, c9, c10, c11, c12, c13, c14, c15] H (lawB.drop 2) := by
  refine ds_set (F := F) 3 (xe_script T.t F (os := [.forget 1, .forget 0]) (de_lst (K := K) (xa_d (de_tup (xa_d de_str (xa_d de_int xa_nil))) (xa_d (de_tup (xa_d de_str (xa_d de_int xa_nil))) xa_nil))) (.inr rfl) (by decide) (by decide) (fun o ho => ?_)) fun v3 H1 e1 h3 => ?_
  · simp only [List.mem_cons, List.not_mem_nil, or_false] at ho
    rcases ho with rfl | rfl
    · exact ⟨by decide, by decide⟩
    · exact ⟨by decide, by decide⟩
  obtain ⟨pt, dx, tv, rfl, hp, ht⟩ := h3
  have hT1 := tabs_up hT (up_of e1)
  show DSs _ _ [c0, c1, c2, some (.ref pt), none, c5, c6, c7, c8, c9, c10, c11, c12, c13, c14, c15] _ _
  refine ds_guardA (at_or2 (at_cmp (K := K) (cm_nes (s := "number") (s2 := "number")) (ae_ix (K := K) (i := 0) F (told_cut T TB F hT1 rfl hp ht fun t v H2 x2 hT2 h2 => ⟨t, _, .str "number", rfl, .inl (.inl h2), rfl, ?_⟩))))
  have hp2 := x2 _ _ hp (fun _ z => by cases z) (fun _ z => by cases z)
  have ht2 := dp_xn x2 rfl ht
  refine ae_er (de_str (K := K)) fun v' H3 e3 h3' => ⟨.str _, h3', by decide, ?_⟩
  replace hp2 := e3 _ _ hp2
  replace ht2 := dp_up (up_of e3) _ _ ht2
  have hT3 := tabs_up hT2 (up_of e3)
  refine at_cmp (K := K) (d1 := .tuple [.str "forget", .int 0]) (d2 := .tuple [.str "forget", .int 0]) (z := false) (by
    have q := cm_neD (K := K) (b := .Tuple [.Constant (.str "forget") 0 ⟨574, 82, 574, 90⟩, .Constant (.int 0) 0 ⟨574, 92, 574, 93⟩] 0 ⟨574, 81, 574, 94⟩) F (show SeqAt.shaped (.tuple [.str "forget", .int 0]) = true by decide +kernel) (show SeqAt.shaped (.tuple [.str "forget", .int 0]) = true by decide +kernel)
    have e : (!PyData.eqv (.tuple [.str "forget", .int 0]) (.tuple [.str "forget", .int 0])) = false := by decide +kernel
    rw [e] at q
    exact q) ?_
  obtain ⟨fd, GI, bd⟩ := gi_ok (P := P) (base := base) T.t T.u
  refine ⟨_, _, fun i => pe_get (X := lawY P w K mg base (.ref cL) A outer s_ H0 E ()) (k := 3) (E := fun _ _ _ => False) GI ((F.rm ()).mono (by decide)) bd (i_Script T.t) T.u.gf LamX.takes0 (fun _ _ _ _ h => h) (pe_var (i := 3) rfl (.inr (.inl rfl)) (by decide) (by decide)) (pe_int (i := 1)) (fun _ _ => rfl), ?_, fun _ _ z => z⟩
  refine ⟨.ref pt, rfl, pt, dx, _, rfl, hp2, pt, dx, tv, .int 1, _, rfl, hp2, ht2, .inl ⟨1, _, rfl, by decide, by decide, rfl, fun v4 H4 e4 h4 => ?_⟩⟩
  replace hp2 := e4 _ _ hp2
  replace ht2 := dp_up (up_of e4) _ _ ht2
  have hT4 := tabs_up hT3 (up_of e4)
  refine ae_er (de_tup (K := K) (xa_d de_str (xa_d de_int xa_nil))) fun v5 H5 e5 h5 => ⟨dp_up (up_of e5) _ _ h4, h5, rfl, ?_⟩
  replace hp2 := e5 _ _ hp2
  replace ht2 := dp_up (up_of e5) _ _ ht2
  have hT5 := tabs_up hT4 (up_of e5)
  refine ds_forA (K := K) 4 F (ae_er (de_tup (K := K) (xa_d (de_intN F N (n_int T.t) (de_nines de_str de_int)) (xa_d (de_sub de_int (de_intN F N (n_int T.t) (de_nines de_str de_int))) (xa_d de_int (xa_d (de_neg de_int) (xa_d de_bl xa_nil)))))) fun v6 H6 e6 h6 => ?_)
  replace hp2 := e6 _ _ hp2
  replace ht2 := dp_up (up_of e6) _ _ ht2
  have hT6 := tabs_up hT5 (up_of e6)
  cases h6 with
  | @tup fa xs _ hsq hxs =>
    have hxs' : DpAll K H6 xs farDs := hxs
    refine ⟨fa, _, rfl, hsq, fun i σ' H' => XN H6 H' ∧ LamX.Tabs [(PL, lamQ K cL A s_)] H' ∧ ∃ c4, σ' = [c0, c1, c2, some (.ref pt), c4, c5, c6, c7, c8, c9, c10, c11, c12, c13, c14, c15], ⟨XN.refl _, hT6, none, rfl⟩, fun i σ' H' h => xn_t h.1 hsq, fun i v σ' H7 hi hiv h => ?_, fun σ' H7 h => ?_⟩
    · obtain ⟨x7, hT7, c4, rfl⟩ := h
      obtain ⟨d, z, hd, hl, hb, hno⟩ := far_row hxs' hiv
      show DSs _ _ [c0, c1, c2, some (.ref pt), some v, c5, c6, c7, c8, c9, c10, c11, c12, c13, c14, c15] _ _
      refine ds_guardA (at_cmp (K := K) (cm_nes (s := pairT "number" z) (s2 := pairT "number" z)) (ae_repr F G N (n_repr T.t) hl (told_far T TB F hT7 rfl rfl (x7 _ _ hp2 (fun _ z => by cases z) (fun _ z => by cases z)) (dp_xn x7 rfl ht2) hb fun t H8 x8 hT8 h8 => ⟨.tup (.inl (.inl h8)) (.cons (.str _) (.cons (hd _) .nil)), ?_⟩)))
      refine ae_er (de_reprN F G N (n_repr T.t) (de_tup (K := K) (xa_d de_str (xa_d (de_v 4 (hd _)) xa_nil))) hl) fun v9 H9 e9 h9 => ⟨.str _, h9, by simp, ?_⟩
      exact ds_nil ⟨(x7.trans x8).trans (xn_up (up_of e9)), tabs_up hT8 (up_of e9), _, rfl⟩
    · obtain ⟨x7, hT7, c4, rfl⟩ := h
      have hp7 := x7 _ _ hp2 (fun _ z => by cases z) (fun _ z => by cases z)
      have ht7 := dp_xn x7 rfl ht2
      refine ds_ret (de_cmp (de_f F (f_walked T.t) (xa_x (xe_v (y := .scr turnS) 3 ⟨pt, dx, tv, rfl, hp7, ht7⟩) (xa_d de_str (xa_d (de_ansN (fl_lst (xa_d de_str xa_nil)) de_int (by decide) (by decide)) (xa_d (de_tup xa_nil) (xa_d de_str xa_nil))))) ⟨201, rfl, by decide, rfl⟩) (de_tup (xa_d de_str (xa_d de_int (xa_d (de_tup xa_nil) (xa_d de_int (xa_d de_int (xa_d de_int (xa_d (de_tup xa_nil) xa_nil)))))))) (cm_eqD F (by decide +kernel) (by decide +kernel))) (fun v' H' e' h' => ?_) (r := .bool true) ?_
      · cases h'
        exact hrt H'
      · exact congrArg PyData.bool (by decide +kernel)
end
end PK
namespace PK
open L2 PySem PySem.Spec PyProof.Rows
theorem cl_ok {K : PySem.W.Frag} (h : clB K = true) : ∃ nm q N bs bm sn sub ab col dd k0 k1 k2 k3 k5, K.lookup (cB K) = some (excClassObj nm q (cB K) N bs bm true sn sub ab col dd k0 k1 k2 k3 k5 "ValueError.__new__") ∧ PySem.HandSPX.refsVE bm = true := by
  unfold clB at h
  split at h
  · rename_i t dd cd sl e
    obtain ⟨h1, h2⟩ := He.ba h
    obtain ⟨nm, bs, mro, ns, qn, hd, sn, sb, ab, col, del⟩ := cd
    split at h2
    · rename_i C bm k0 k1 k2 k3 n k5 em es
      obtain ⟨h3, h4⟩ := He.ba h2
      obtain ⟨h5, h6⟩ := He.ba h3
      obtain ⟨h7, h8⟩ := He.ba h4
      obtain ⟨h9, h10⟩ := He.ba h8
      have e1 : t = "type" := of_decide_eq_true h1
      have e2 : C = cB K := beq_iff_eq.mp h5
      have e3 : n = "ValueError.__new__" := of_decide_eq_true h6
      have e4 : hd = true := h9
      have e5 : del = false := by simpa using h10
      have e6 : mro = .ref C :: bm := em
      have e7 : sl = #[k0, k1, k2, k3, some (.builtin n), k5] := by
        obtain ⟨l⟩ := sl
        exact congrArg Array.mk es
      subst e1 e2 e3 e4 e5 e6 e7
      exact ⟨nm, qn, ns, bs, bm, sn, sb, ab, col, dd, k0, k1, k2, k3, k5, e, h7⟩
    · cases h2
  · cases h
theorem fileB_ok {K : PySem.W.Frag} {file : Str} {c : Addr} (h : fileB K file (.ref c) = true) : ∃ ccl cdd vs ccs f tf, K.lookup c = some ⟨ccl, cdd, .fields vs, ccs⟩ ∧ (vs[2]? : Option Value) = some (.str f tf) ∧ (file == f) = true := by
  cases lc : K.lookup c with
  | none => simp [fileB, lc] at h
  | some o =>
    obtain ⟨ccl, cdd, dt, ccs⟩ := o
    cases dt with
    | fields vs =>
      cases ef : (vs[2]? : Option Value) with
      | none => simp [fileB, lc, ef] at h
      | some u =>
        cases u with
        | str f tf => exact ⟨_, _, _, _, f, tf, rfl, ef, by simpa [fileB, lc, ef] using h⟩
        | _ => simp [fileB, lc, ef] at h
    | _ => simp [fileB, lc] at h
theorem cellB_ok {K : PySem.W.Frag} {l : List (Str × Addr)} (h : cellB K l = true) : ∃ x cc cl cld csl, l = [(x, cc)] ∧ K.lookup cc = some ⟨cl, cld, .cell (some (.ref (cB K))), csl⟩ := by
  match l, h with
  | [(x, cc)], h =>
    cases lc : K.lookup cc with
    | none => simp [cellB, lc] at h
    | some o =>
      obtain ⟨ccl, cdd, dt, ccs⟩ := o
      cases dt with
      | cell v =>
        cases v with
        | none => simp [cellB, lc] at h
        | some u =>
          cases u with
          | ref C =>
            have e : C = cB K := by simpa [cellB, lc] using h
            exact ⟨x, cc, _, _, _, rfl, by rw [lc, e]⟩
          | _ => simp [cellB, lc] at h
      | _ => simp [cellB, lc] at h
theorem bn_ok {P : Program} {K : PySem.W.Frag} {file : Str} (hb : bnB K file = true) (ho : bnObs K = bnVal) (hfile : P.main.file = file) : ∃ (oc : Value) (od : Option Addr) (kV doc pm : Value) (an : Option Addr) (cda : Addr) (ct : Value) (osl : Array (Option Value)) (cc : Addr) (cl : Value) (cld : Option Addr) (csl : Array (Option Value)) (ccl : Value) (cdd : Option Addr) (vs : Array Value) (ccs : Array (Option Value)) (file : Str) (tf : Tok),
    K.lookup (fB K) = some ⟨oc, od, .func (PySem.W.ksFn "__init__" "BadNumber.__init__" (defArgs sC_BadNumber_init) (defBody sC_BadNumber_init) (defScope sC_BadNumber_init) .none kV doc pm an (.ref cda) ct cc), osl⟩ ∧ PySem.W.codeIn K (.ref cda) "BadNumber.__init__" = true ∧
    K.lookup cc = some ⟨cl, cld, .cell (some (.ref (cB K))), csl⟩ ∧ K.lookup cda = some ⟨ccl, cdd, .fields vs, ccs⟩ ∧ vs[2]? = some (.str file tf) ∧ ((P.main.file : Str) == file) = true := by
  unfold bnObs at ho
  unfold bnB at hb
  split at hb
  · rename_i oc od fd osl lk
    rw [lk] at ho
    obtain ⟨n1, n2, n3, n4, n5, n6, n7, n8, n9, n10, n11, n12, n13, n14, n15⟩ := fd
    have e2 : (some (n1, n2, n3, n4, n5, n6, n7.map (·.1), n15) : BnO) = bnVal := ho
    unfold bnVal at e2
    simp only [Option.some.injEq, Prod.mk.injEq] at e2
    obtain ⟨h1, h2, h3, h4, h5, h6, h7, h8⟩ := e2
    obtain ⟨k1, hb⟩ := He.ba hb
    obtain ⟨k2, hb⟩ := He.ba hb
    obtain ⟨k3, k4⟩ := He.ba hb
    have k1' : isNon n8 = true := k1
    have k2' : PySem.W.codeIn K n13 "BadNumber.__init__" = true := k2
    have k3' : fileB K file n13 = true := k3
    have k4' : cellB K n7 = true := k4
    obtain rfl : n8 = .none := by
      unfold isNon at k1'
      split at k1'
      · rfl
      · cases k1'
    obtain ⟨c, rfl⟩ := He.codeIn_ref k2'
    obtain ⟨ccl, cdd, vs, ccs, f, tf, lc, ef, eq⟩ := fileB_ok k3'
    obtain ⟨x, cc, cl, cld, csl, rfl, lcc⟩ := cellB_ok k4'
    have e7 : x = ("__class__" : Str) := by
      have z : [x] = [("__class__" : Str)] := h7
      exact (List.cons.inj z).1
    subst h1 h2 h3 h4 h5 h6 h8 e7
    refine ⟨oc, od, n9, n10, n11, n12, c, n14, osl, cc, cl, cld, csl, ccl, cdd, vs, ccs, f, tf, lk, k2', lcc, lc, ef, ?_⟩
    rw [hfile]
    exact eq
  · cases hb
theorem tail_ok {P : Program} {w : World} {K : PySem.W.Frag} {mg : Str → Option Value} {file : Str} (T : Txt w K mg) (h : exTail K file = true) (ho : bnObs K = bnVal) (hfile : P.main.file = file) (htop : (P.main.scope.names.lookup ("super" : Str)).isSome = false) : TailT P K mg ∧ ErrT K mg ∧ ClsT K := by
  unfold exTail at h
  simp only [List.all_cons, List.all_nil, id_eq, Bool.and_eq_true, Bool.and_true] at h
  obtain ⟨a1, a2, a3, a4, a5, a6, a7, a8, a9, a10, a11, a12, a13, a14, a15, a16, a17, a18, a19, a20, a21, a22, a23⟩ := h
  have ox : OexC K (cB K) := ⟨cl_ok a2, He.eqO_ok a3, of_decide_eq_true a4, of_decide_eq_true a5, a6⟩
  have cd : ∃ cd, PySem.W.clsIn K (cB K) = some cd := by
    obtain ⟨nm, q, N, bs, bm, sn, sub, ab, col, dd, k0, k1, k2, k3, k5, hC, _⟩ := ox.cls
    refine ⟨{ name := nm, bases := bs, mro := .ref (cB K) :: bm, ns := N, qualname := q, hasDict := true, slotNames := sn, subclasses := sub, abstract := ab, collection := col, hasDel := false }, ?_⟩
    unfold PySem.W.clsIn
    rw [hC] <;> rfl
  obtain ⟨hp, X, G⟩ := T.at_
  have sup : mg "super" = none := PySem.W.mg_none_of X G (He.eqO_ok a16)
  refine ⟨⟨⟨bn_ok a1 ho hfile, ox, He.eqO_ok a7, cd, of_decide_eq_true a8, He.eqO_ok a9, He.eqO_ok a10, of_decide_eq_true a11, htop⟩, He.eqO_ok a12, of_decide_eq_true a13, a14, a15, sup⟩,
    ⟨xfB_ok a17, He.eqO_ok a18, He.eqO_ok a19, of_decide_eq_true a20, of_decide_eq_true a21, ?_, He.eqO_ok a7, fun n hn => of_decide_eq_true (List.all_eq_true.mp a23 n hn), fun n hn => ?_⟩, ⟨of_decide_eq_true a22⟩⟩
  · obtain ⟨c, e⟩ := cd
    rw [e] <;> rfl
  · simp only [kn, List.mem_cons, List.not_mem_nil, or_false] at hn
    rcases hn with rfl | rfl | rfl | rfl | rfl | rfl | rfl | rfl | rfl | rfl | rfl | rfl
    · exact m_BadServer T
    · exact m_BadCopy T
    · exact m_BadAct T
    · exact m_BadCondition T
    · exact m_BadScript T
    · exact m_BadState T
    · exact m_BadEvent T
    · exact m_BadOthers T
    · exact m_BadNet T
    · exact m_BadPromise T
    · exact m_BadNumber T
    · exact m_TooGreat T
end PK
namespace PK
open L2 PySem PySem.Spec PyProof.Rows
section
variable {P : Program} {w : World} {K : PySem.W.Frag} {mg : Str → Option Value} {base : Heap} {A : Around} {outer : List Env} {s_ : Shared} {H0 : Hp} {E : XK} {cL PL : Addr} {H : Hp} {D : Ends}
/-- all of law's body -/
theorem law_all (T : LawT P w K mg) (TB : LamX.TabB base mg cL PL) (F : Fm P w K mg base 12 (lawY P w K mg base (.ref cL) A outer s_ H0 E)) (G : ∀ i, (lawY P w K mg base (.ref cL) A outer s_ H0 E i).A.guards = some []) (N : base.NoDigits) (hP : H PL = some (.tbl #[])) (hrt : ∀ H', D.rt (.bl true) H')
    {v0_ : V} {ns : List Int} (h0 : Dp K H v0_ (.list (ns.map .int))) (hl : ns.length ≤ 63) : DSs (lawY P w K mg base (.ref cL) A outer s_ H0 E) D (start lawN [v0_]) H lawB := by
  show DSs _ _ [some v0_, none, none, none, none, none, none, none, none, none, none, none, none, none, none, none] _ _
  refine ds_set (F := F) 1 (de_lst (K := K) (xa_d de_str (xa_d de_str (xa_d de_str (xa_d de_str (xa_d de_str (xa_d de_str (xa_d de_str (xa_d de_str xa_nil))))))))) fun v1_ H1 e1 h1 => ?_
  refine law_main T.t F G (dp_up (up_of e1) _ _ h0) hl h1 fun c2 c5 c6 c7 c8 c9 c10 c11 c12 c13 c14 c15 H' u => ?_
  have hT : LamX.Tabs [(PL, lamQ K cL A s_)] H' := fun p hp => by
    rcases List.mem_cons.mp hp with rfl | z
    · exact LamX.TabS.nil (u _ _ (e1 _ _ hP) fun _ z => by cases z)
    · cases z
  exact law_tail T TB F G N hT hrt _ _ _ _ _ _ _ _ _ _ _ _ _ _
end
end PK
namespace PK
open L2 PySem PySem.Spec PyProof.Rows
/-- what is tracked at the start: the table at p, the script at a where it is not of the written part -/
def hEnd (p a : Addr) (free : Bool) (o : Obj) (u : HO) : Hp := fun b => if b = p then some (.tbl #[]) else if free = true ∧ b = a then some (.frz o u) else none
theorem hEnd_cases {p a : Addr} {free : Bool} {o : Obj} {u v : HO} {b : Addr} (h : hEnd p a free o u b = some v) : (b = p ∧ v = .tbl #[]) ∨ (free = true ∧ b = a ∧ v = .frz o u) := by
  unfold hEnd at h
  split at h
  · rename_i e
    cases h
    exact .inl ⟨e, rfl⟩
  · split at h
    · rename_i e
      cases h
      exact .inr ⟨e.1, e.2, rfl⟩
    · cases h
theorem nolim_of {h h' : Heap} (n : h.NoLimit) (k : ∀ {b : Addr} {m : Str → Option Value}, h.Ns b m → h'.Ns b m) : h'.NoLimit := by
  obtain ⟨m, a, r⟩ := n
  exact ⟨m, k a, r⟩
theorem law_end {w : World} {s₁ : Shared} {mg mb : Str → Option Value} {a : Addr} {vs : List Value} {ns : List Int} {K : PySem.W.Frag} (SL : SaysL w s₁.heap K) (KX : K.In s₁.heap) (gG : s₁.heap.Ns mainGlobals mg) (gB : s₁.heap.Ns builtinsNs mb) (eB : ∀ x : Str, x ≠ "__name__" → mb x = bootBuiltins x)
    (lim : s₁.heap.NoLimit) (dig : s₁.heap.NoDigits) (bmn : ∃ (bm : Addr) (ob : Obj), mg "__builtins__" = some (.ref bm) ∧ bm ≠ builtinsNs ∧ s₁.heap.get? bm = some ob ∧ ob.cls = .type "module" ∧ ob.dict = some builtinsNs ∧ ob.data = .plain) (gens : s₁.gens = #[])
    (ha : s₁.heap.get? a = some { cls := .type "list", data := .seq vs.toArray }) (hi : IntsAre vs ns) (hl : ns.length ≤ 63) (htop : (R.prog.main.scope.names.lookup ("super" : Str)).isSome = false) :
    codeAny (model R.prog w) callerA (.call (.ref (He.ga K "law")) ⟨[.ref a], []⟩) (fun r s' => r = .ok (.ret (.bool true)) ∧ OldK s₁.heap s'.heap ∧ s'.os = s₁.os ∧ AllBare s'.gens) s₁ := by
  have T : Txt w K mg := ⟨SL.m, s₁.heap, KX, gG⟩
  obtain ⟨t1, t2, t3⟩ := tail_ok (P := R.prog) T SL.t SL.b rfl htop
  have LT : LawT R.prog w K mg := ⟨T, t1, t2, t3⟩
  obtain ⟨fd, hF⟩ := h_law T
  obtain ⟨oc, od, dV, kV, doc, pm, an, cdv, ct, osl, rfl, lk, hcd, hdf, _⟩ := hF.ex
  obtain ⟨c0, rfl⟩ := He.codeIn_ref hcd
  have ec : (He.cT K lawP).1 = c0 := He.codeOf_eq (p := lawP) lk rfl
  obtain ⟨P0, eP⟩ : ∃ P0, P0 = (He.cT K lawP).2 := ⟨_, rfl⟩
  have hdK : PySem.W.codeHdIn K c0 P0 = true := by
    rw [← ec, eP]
    exact SL.hd
  have outP : K.lookup P0 = none := by
    rw [eP]
    exact SL.out
  have hP0 : s₁.heap.get? P0 = some { cls := .none, data := .fields #[] } := by
    rw [eP]
    exact SL.nil
  have rv : Vals (ns.map V.int) vs := vals_ints hi
  have lv := hi.length
  have naP : a ≠ P0 := fun z => by
    rw [z, hP0] at ha
    have z2 : Data.fields #[] = Data.seq vs.toArray _ := congrArg Obj.data (Option.some.inj ha)
    cases z2
  obtain ⟨fr, eF⟩ : ∃ fr : Bool, fr = (K.lookup a).isNone := ⟨_, rfl⟩
  obtain ⟨H, eH⟩ : ∃ H : Hp, H = hEnd P0 a fr { cls := .type "list", data := .seq vs.toArray } (.lst (ns.map V.int)) := ⟨_, rfl⟩
  have hT : H P0 = some (.tbl #[]) := by
    rw [eH]
    exact if_pos rfl
  have cs : ∀ {b : Addr} {v : HO}, H b = some v → (b = P0 ∧ v = .tbl #[]) ∨ (fr = true ∧ b = a ∧ v = .frz { cls := .type "list", data := .seq vs.toArray } (.lst (ns.map V.int))) := fun {b v} h => hEnd_cases (by rw [← eH]; exact h)
  have plain : ∀ {b : Addr} {o : Obj}, s₁.heap.get? b = some o → o.data ≠ .fields #[] → (∀ x n, o.data ≠ .seq x n) → H b = none := fun {b o} e n1 n2 => by
    cases q : H b with
    | none => rfl
    | some v =>
      rcases cs q with ⟨z, _⟩ | ⟨_, z, _⟩
      · rw [z, hP0] at e
        cases e
        exact absurd rfl n1
      · rw [z, ha] at e
        cases e
        exact absurd rfl (n2 _ _)
  have sub : ∀ {b : Addr} {o : Obj}, s₁.heap.get? b = some o → H b = none → (hidT s₁.heap H).get? b = some o := fun e n => hidT_get e n
  have ns' : ∀ {b : Addr} {m : Str → Option Value}, s₁.heap.Ns b m → (hidT s₁.heap H).Ns b m := fun {b m} ⟨o, es, ep, e, d, r⟩ => ⟨o, es, ep, sub e (plain e (by rw [d]; intro z; cases z) (by rw [d]; intro _ _ z; cases z)), d, r⟩
  have KB : K.In (hidT s₁.heap H) := fun b o e => sub (KX b o e) (by
    cases q : H b with
    | none => rfl
    | some v =>
      rcases cs q with ⟨z, _⟩ | ⟨z1, z, _⟩
      · rw [z, outP] at e
        cases e
      · rw [eF] at z1
        rw [z] at e
        rw [e] at z1
        cases z1)
  have md : L2.Mod K mg (hidT s₁.heap H) := ⟨KB, ns' gG, ⟨mb, ns' gB, eB⟩, nolim_of lim ns'⟩
  have dg : (hidT s₁.heap H).NoDigits := by
    obtain ⟨m, z, r⟩ := dig
    exact ⟨m, ns' z, r⟩
  have notDict : ∀ {b : Addr} {m : Str → Option Value}, s₁.heap.Ns b m → ∀ o, s₁.heap.get? b = some o → ∃ es n, o.data = .dict es n := fun ⟨o, es, ep, e, d, _⟩ o' e' => by
    rw [e] at e'
    cases e'
    exact ⟨es, ep, d⟩
  have TB : LamX.TabB (hidT s₁.heap H) mg c0 P0 := by
    have gP : mainGlobals ≠ P0 := fun z => by
      obtain ⟨es, n, d⟩ := notDict gG _ (by rw [z]; exact hP0)
      cases d
    refine ⟨PySem.W.codeHd_of_K KB hdK, ?_, gP⟩
    obtain ⟨bm, ob, b1, b2, b3, b4, b5, b6⟩ := bmn
    refine ⟨bm, ob, b1, b2, fun z => ?_, fun z => ?_, sub b3 (plain b3 (by rw [b6]; intro z; cases z) (by rw [b6]; intro _ _ z; cases z)), b4, b5, b6⟩
    · obtain ⟨es, n, d⟩ := notDict gG _ (by rw [← z]; exact b3)
      rw [b6] at d
      cases d
    · rw [z, hP0] at b3
      cases b3
      cases b6
  have hok : HOk R.prog w H s₁.heap := fun b v h => by
    rcases cs h with ⟨rfl, rfl⟩ | ⟨_, rfl, rfl⟩
    · exact hP0
    · exact ⟨ha, by rw [List.length_map, sizeLine_eq]; omega, vs, _, rv, ha⟩
  have e0 : Env0 R.prog w K mg (hidT s₁.heap H) callerA [] s₁ H := ⟨rfl, md, fun b o e => of_hidT e, Nat.le_of_eq (hidT_size _ _), trivial, fun b hb => absurd (show b ∈ ([] : List Addr) from hb) (by simp), hok, .of_eq gens⟩
  have hS : SqL K H a (ns.map V.int) := by
    cases q : K.lookup a with
    | none =>
      refine .inl (.inr ⟨{ cls := .type "list", data := .seq vs.toArray }, ?_⟩)
      rw [eH]
      unfold hEnd
      rw [if_neg naP, if_pos ⟨by rw [eF, q] <;> rfl, rfl⟩]
    | some o =>
      have e := KX a o q
      rw [ha] at e
      cases e
      exact .inr ⟨_, vs.toArray, _, q, rfl, rfl, rfl, by rw [List.size_toArray, lv, sizeLine_eq]; omega, by simpa using rv⟩
  have hdp : Dp K H (.ref a) (.list (ns.map .int)) := by
    refine .lst hS ?_
    have all : ∀ l : List Int, DpAll K H (l.map V.int) (l.map .int) := fun l => by
      induction l with
      | nil => exact .nil
      | cons i l ih => exact .cons (.int i) ih
    exact all ns
  obtain rfl : dV = .none := by
    rcases hdf with ⟨_, z⟩ | ⟨z, _⟩
    · exact z
    · exact absurd rfl z
  have bdn : L2.Binds K (PySem.W.fnOf "law" "law" (defArgs s_law) (defBody s_law) (defScope s_law) .none kV doc pm an (.ref c0) ct) ["_law_script"] [] := hF.bindsN fun _ _ _ _ _ _ us hl => match us, hl with | [_], _ => rfl
  have bd := bdn s₁ [.ref a] KX rfl
  have S : FnScope lawN ["_law_script"] (defScope s_law) := ⟨rfl, rfl, rfl, by decide +kernel, rfl, by decide +kernel, by decide +kernel⟩
  have run := LamX.run_ofS (CX := CX0) (P := R.prog) (w := w) (k := 12) (us := [.ref a]) (vs := [.ref a]) (E := E0) (Q := fun v _ => v = .bl true) lk hcd S (show Room 13 callerA from ⟨rfl, by decide, by decide⟩) e0 bd (.cons rfl .nil) rfl fun hr => by
    have F : Fm R.prog w K mg (hidT s₁.heap H) 12 (lawY R.prog w K mg (hidT s₁.heap H) (.ref c0) callerA [] s₁ H E0) := ⟨fun _ => rfl, fun _ => rfl, fun _ => rfl, fun _ => rfl, fun _ => rfl, fun _ => rfl, fun _ => hr, fun _ => by
      show lawN.Nodup
      decide +kernel⟩
    obtain ⟨t, ht, h⟩ := law_all (D := { nx := fun _ _ => V.non = .bl true, rt := fun v _ => v = .bl true }) LT TB F (fun _ => rfl) dg hT (fun _ => rfl) hdp hl
    exact ⟨t, (ht ()).nox, h⟩
  refine codeAny_mono run fun r s' h => ?_
  match r, h with
  | .error _, h => exact False.elim h
  | .ok (.ret u), ⟨v, H', os, bare, un, hok', ru, q⟩ =>
    have q' : v = .bl true := q
    subst q'
    obtain rfl : u = Value.bool true := ru
    obtain ⟨more, hm⟩ := un.tbls P0 #[] hT
    have gP : s'.heap.get? P0 = some { cls := .none, data := .fields (#[] ++ more) } := hok' P0 _ hm
    have stays : ∀ b o, b ≠ P0 → s₁.heap.get? b = some o → s'.heap.get? b = some o := fun b o nb e => by
      cases z : H b with
      | none => exact un.keep b o e z (by intro hb; exact absurd (show b ∈ ([] : List Addr) from hb) (by simp)) (by simp)
      | some v =>
        rcases cs z with ⟨y, _⟩ | ⟨_, y, y2⟩
        · exact absurd y nb
        · rw [y2] at z
          obtain ⟨g1, _⟩ := hok b _ z
          obtain ⟨g2, _⟩ := hok' b _ (un.frzs b _ _ z)
          rw [e] at g1
          cases g1
          exact g2
    refine ⟨rfl, ⟨fun b o e => ?_, fun b o e => ?_⟩, os, bare⟩
    · by_cases nb : b = P0
      · rw [nb, hP0] at e
        cases e
        rw [nb]
        exact .inr (.inl ⟨((PySem.W.codeHd_of_K KX hdK).tab hP0).isCodeTable, rfl, #[], more, rfl, gP⟩)
      · exact .inl (stays b o nb e)
    · by_cases nb : b = P0
      · exact ⟨_, by rw [nb]; exact gP⟩
      · exact ⟨o, stays b o nb e⟩
end PK
open PySem PySem.W PySem.Calls PyProof.Rows
set_option maxRecDepth 100000 in
set_option maxHeartbeats 8000000 in
theorem PySem.Challenge.cw_putonlyif_k22_whole_steps_of_any_state_holds : PySem.Challenge.rw_putonlyif_k22_whole_steps_of_any_state.Holds := by
  refine PK.top_any (Att.attach_callB (l := PySem.Challenge.rw_putonlyif_k22_whole_steps_of_any_state) (n := 63) rfl PK.topD fun w s₀ s₁ mg mb fa o pm cd doc a vs ns G Y ho hd hcd hmg0 hobj hints hlen hbits hg => ?_)
  obtain ⟨K, KX, SL⟩ := Y
  have hmg : mg ("law" : PySem.Str) = some (.ref fa) := by rw [← PK.topN]; exact hmg0
  have e1 := PK.m_law (⟨SL.m, s₁.heap, KX, G.T.g⟩ : PK.Txt w K mg)
  rw [hmg] at e1
  cases e1
  exact PK.law_end SL KX G.T.g G.T.b G.T.builtins G.T.nolimit G.T.nodigits G.T.bmain hg hobj hints hlen PK.topS
