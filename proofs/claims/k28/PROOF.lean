import PyProof.Rows.All
import Wide.All
import OpenK.AllK
import Wide.FinOn
import HandS.ForMost
import HandS.Exc
import HandS.ExcOwn
import HandS.ExcInit
import HandS.ExcField
import HandS.TryMany
import HandS.WordsExc
import HandS.FStr
import HandS.Evl
import HandS.Walk
import HandS.IsInst
import HandS.OwnEq
import HandS.Star
import HandS.Defaults
import HandS.WideBits
import HandS.Wide
import HandS.TupAny
import HandS.EndBits
import HandS.Codes
import HandS.ExcSuper
import KE.KExcSuper
import KE.GoesEnum
import KE.GoesMore
import PySem.Challenge.RW_needforth_k28_whole_makers_of_tables
section
set_option Elab.async false
set_option linter.all false
set_option maxRecDepth 100000
set_option maxHeartbeats 4000000
/-! The text by places, what the top has written, and short words of our own. -/
namespace K28
open PySem PySem.Spec PyProof.Rows L2
open Evl (Ex)
/-! ### the text -/
def top (i : Nat) : Stmt := PySem.Challenge.pw_needforth_k28_whole_makers_of_tables.main.body.getD i (.Pass ⟨0, 0, 0, 0⟩)
/-- what the top has written -/
structure Txt (K : PySem.W.Frag) (mg : Str → Option Value) (CT CM : Addr) : Prop where
  b_isinstance : mg "isinstance" = none
  b_int : mg "int" = none
  b_bool : mg "bool" = none
  b_str : mg "str" = none
  b_tuple : mg "tuple" = none
  b_list : mg "list" = none
  b_len : mg "len" = none
  b_all : mg "all" = none
  b_any : mg "any" = none
  b_max : mg "max" = none
  b_range : mg "range" = none
  b_enumerate : mg "enumerate" = none
  b_abs : mg "abs" = none
  g_GIVE : ∃ u, mg "GIVE" = some u ∧ RelV (.str "give") u
  g_MOST_INLETS : ∃ u, mg "MOST_INLETS" = some u ∧ RelV (.int 3) u
  g_MOST_WAYS : ∃ u, mg "MOST_WAYS" = some u ∧ RelV (.int 4) u
  g_MOST_DEEDS : ∃ u, mg "MOST_DEEDS" = some u ∧ RelV (.int 600) u
  g_MOST_DEEDS_EACH : ∃ u, mg "MOST_DEEDS_EACH" = some u ∧ RelV (.int 24) u
  g_MOST_FIRST : ∃ u, mg "MOST_FIRST" = some u ∧ RelV (.int 200) u
  g_MOST_THEN : ∃ u, mg "MOST_THEN" = some u ∧ RelV (.int 40) u
  g_Table : ∃ u, mg "Table" = some u ∧ RelV (.ref CT) u
  g_Maker : ∃ u, mg "Maker" = some u ∧ RelV (.ref CM) u
  clT : Cls K CT
  clM : Cls K CM
  isT : C8.InsC K CT
  isM : C8.InsC K CM
  t_head : NoAttr K CT "head"
  t_loop : NoAttr K CT "loop"
  t_rise : NoAttr K CT "rise"
  m_inlets : NoAttr K CM "inlets"
  m_begin : NoAttr K CM "begin"
  m_ways : NoAttr K CM "ways"
  k_none : PySem.W.kitOne K (.type "NoneType") (.ref CT) = some false
  k_int : PySem.W.kitOne K (.type "int") (.ref CT) = some false
  k_tuple : PySem.W.kitOne K (.type "tuple") (.ref CT) = some false
  k_str : PySem.W.kitOne K (.type "str") (.ref CT) = some false
  k_bool : PySem.W.kitOne K (.type "bool") (.ref CT) = some false

/-! ### heaps and data -/
theorem tyx_t {K : PySem.W.Frag} {H : Hp} {a : Addr} {xs : List V} (h : SqT K H a xs) : TyX K H (.ref a) (.type "tuple") := by
  rcases h with (h | ⟨o, h⟩) | ⟨o, its, n, l, c, _⟩
  · exact .base (.tup h)
  · exact .fTuple h
  · exact .kTuple l c
theorem tyx_l {K : PySem.W.Frag} {H : Hp} {a : Addr} {xs : List V} (h : SqL K H a xs) : TyX K H (.ref a) (.type "list") := by
  rcases h with (h | ⟨o, h⟩) | ⟨o, its, n, l, c, _⟩
  · exact .base (.lst h)
  · exact .base (.frz h)
  · exact .kList l c
theorem tyx_mono {K : PySem.W.Frag} {H H' : Hp} (e : Ex H H') {x : V} {t : Value} (h : TyX K H x t) : TyX K H' x t := by
  cases h with
  | base b =>
    refine .base ?_
    cases b with
    | non => exact .non
    | bl y => exact .bl y
    | int i => exact .int i
    | str y => exact .str y
    | flt y => exact .flt y
    | lst h => exact .lst (e _ _ h)
    | frz h => exact .frz (e _ _ h)
    | tup h => exact .tup (e _ _ h)
    | dK h => exact .dK (e _ _ h)
    | dT h => exact .dT (e _ _ h)
    | ins h cl ha hn htk hm => exact .ins (e _ _ h) cl ha hn htk hm
  | byt y => exact .byt y
  | set h => exact .set (e _ _ h)
  | kList l c => exact .kList l c
  | kTuple l c => exact .kTuple l c
  | kDict l c => exact .kDict l c
  | fTuple h => exact .fTuple (e _ _ h)
  | fDict h => exact .fDict (e _ _ h)
theorem if_t {A B : Prop} {c : Bool} (hc : c = true) (h : A) : if c = true then A else B := by
  rw [if_pos hc]; exact h
theorem if_f {A B : Prop} {c : Bool} (hc : c = false) (h : B) : if c = true then A else B := by
  rw [hc, if_neg Bool.false_ne_true]; exact h
theorem kit_own {K : PySem.W.Frag} (C : Addr) : PySem.W.kitOne K (.ref C) (.ref C) = some true := by
  unfold PySem.W.kitOne
  rw [if_pos (by simp)]
/-- a def that is called by its name, that may raise -/
structure CalX (P : Program) (w : World) (K : PySem.W.Frag) (mg : Str → Option Value) (base : Heap) (k : Nat) (x : Str) (sp : Sp) : Prop where
  ex : ∃ (f : Addr) (fd : FuncData) (ps : List Str), FnOk P w K mg base (L2.CX P w) k f fd ps sp ∧ mg x = some (.ref f) ∧ PySem.W.keepIn K (.ref f) = true ∧ Binds K fd ps []
theorem pe_cx {X : Cx} {k j : Nat} {x : Str} {sp : Sp} {p pos : Pos} {e : Expr} {es : List Expr} {t : TA} {E : L2.St → XK} (c : CalX X.prog X.w X.K X.mg X.base k x sp) (hr : Room j X.A) (hk : k ≤ j) (hg : Gl X x) (hx : ∀ σ, PassesAt (L2.CX X.prog X.w) X σ (E σ)) (ha : PA X (e :: es) t)
    (hdb : (x == ("__debug__" : Str)) = false := by decide) (he : starEach (e :: es) X.env = (false, eval e X.env) :: starEach es X.env := by rfl) (hpl : (backTo pos (starEach es X.env)).any (·.1) = false := by rfl) :
    PE X (.Call (.Name x p) (e :: es) [] pos) (tCallS sp E t) := by
  obtain ⟨f, fd, ps, F, hm, kp, b⟩ := c.ex
  exact pe_callS F (hr.mono hk) hg hm kp b hx ha hdb he hpl
/-- what a def hands back: the heap has grown, P holds -/
def Rt (H : Hp) (Q : VK) (P : V → Hp → Prop) : Prop := ∀ v H', Ex H H' → P v H' → Q v H'
theorem Ex.r {H : Hp} : Ex H H := Evl.Ex.refl H
/-- all but lists is as it was -/
def Kp (H H' : Hp) : Prop := ∀ a o, H a = some o → (∀ xs, o ≠ .lst xs) → H' a = some o
theorem Kp.r {H : Hp} : Kp H H := fun _ _ h _ => h
theorem Kp.of {H H' : Hp} (e : Ex H H') : Kp H H' := fun a o h _ => e a o h
theorem Kp.trans {H H1 H2 : Hp} (a : Kp H H1) (b : Kp H1 H2) : Kp H H2 := fun x o h n => b x o (a x o h n) n
theorem Kp.lst {H : Hp} {p : Addr} {xs : List V} {o : HO} (h : H p = some (.lst xs)) : Kp H (upd H p o) := fun a u e n => by
  rw [upd_ne (fun z => by rw [z, h] at e; exact n xs (Option.some.inj e).symm)]
  exact e
theorem Kp.new {H : Hp} {p : Addr} {o : HO} (h : H p = none) : Kp H (upd H p o) := .of (Evl.Ex.new h)
theorem Kp.t {K : PySem.W.Frag} {H H' : Hp} (e : Kp H H') {a : Addr} {xs : List V} (h : SqT K H a xs) : SqT K H' a xs := by
  rcases h with (h | ⟨o, h⟩) | h
  · exact .inl (.inl (e _ _ h fun _ z => by cases z))
  · exact .inl (.inr ⟨o, e _ _ h fun _ z => by cases z⟩)
  · exact .inr h
mutual
/-- data without lists -/
inductive Tp (K : PySem.W.Frag) (H : Hp) : V → PyData → Prop where
  | non : Tp K H .non .none
  | bl (b : Bool) : Tp K H (.bl b) (.bool b)
  | int (i : Int) : Tp K H (.int i) (.int i)
  | str (x : Str) : Tp K H (.str x) (.str x)
  | tup {a : Addr} {xs : List V} {ds : List PyData} : SqT K H a xs → TpAll K H xs ds → Tp K H (.ref a) (.tuple ds)
inductive TpAll (K : PySem.W.Frag) (H : Hp) : List V → List PyData → Prop where
  | nil : TpAll K H [] []
  | cons {v : V} {vs : List V} {d : PyData} {ds : List PyData} : Tp K H v d → TpAll K H vs ds → TpAll K H (v :: vs) (d :: ds)
end
section
variable {K : PySem.W.Frag} {H H' : Hp}
mutual
theorem Tp.kp (e : Kp H H') : ∀ {v : V} {d : PyData}, Tp K H v d → Tp K H' v d
  | _, _, .non => .non
  | _, _, .bl b => .bl b
  | _, _, .int i => .int i
  | _, _, .str x => .str x
  | _, _, .tup h r => .tup (e.t h) (TpAll.kp e r)
theorem TpAll.kp (e : Kp H H') : ∀ {vs : List V} {ds : List PyData}, TpAll K H vs ds → TpAll K H' vs ds
  | _, _, .nil => .nil
  | _, _, .cons h r => .cons (Tp.kp e h) (TpAll.kp e r)
end
mutual
theorem Tp.dp : ∀ {v : V} {d : PyData}, Tp K H v d → Dp K H v d
  | _, _, .non => .non
  | _, _, .bl b => .bl b
  | _, _, .int i => .int i
  | _, _, .str x => .str x
  | _, _, .tup h r => .tup h (TpAll.dp r)
theorem TpAll.dp : ∀ {vs : List V} {ds : List PyData}, TpAll K H vs ds → DpAll K H vs ds
  | _, _, .nil => .nil
  | _, _, .cons h r => .cons (Tp.dp h) (TpAll.dp r)
end
theorem Tp.ex (e : Ex H H') {v : V} {d : PyData} (h : Tp K H v d) : Tp K H' v d := h.kp (.of e)
def intsD (ns : List Int) : PyData := .tuple (ns.map PyData.int)
theorem tpAll_ints (ns : List Int) : TpAll K H (ns.map V.int) (ns.map PyData.int) := by
  induction ns with
  | nil => exact .nil
  | cons n r ih => exact .cons (.int n) ih
theorem ints_all : ∀ {ns : List Int} {xs : List V}, TpAll K H xs (ns.map PyData.int) → xs = ns.map V.int
  | [], _, .nil => rfl
  | n :: r, _, .cons (.int _) h => by rw [ints_all h]; rfl
theorem tp_ints {a : Addr} {ns : List Int} (h : SqT K H a (ns.map V.int)) : Tp K H (.ref a) (intsD ns) := .tup h (tpAll_ints ns)
theorem Tp.ints {v : V} {ns : List Int} (h : Tp K H v (intsD ns)) : ∃ a, v = .ref a ∧ SqT K H a (ns.map V.int) := by
  unfold intsD at h
  cases h with
  | tup q r => exact ⟨_, rfl, by rw [← ints_all r]; exact q⟩
theorem Tp.int_inv {v : V} {i : Int} (h : Tp K H v (.int i)) : v = .int i := by cases h; rfl
def rawD (x : List Int × List Int × Int) : PyData := .tuple [intsD x.1, intsD x.2.1, .int x.2.2]
theorem Tp.raw {v : V} {x : List Int × List Int × Int} (h : Tp K H v (rawD x)) : ∃ a vh vl, v = .ref a ∧ SqT K H a [vh, vl, .int x.2.2] ∧ Tp K H vh (intsD x.1) ∧ Tp K H vl (intsD x.2.1) := by
  unfold rawD at h
  cases h with
  | tup q r =>
    cases r with
    | cons h1 r =>
      cases r with
      | cons h2 r =>
        cases r with
        | cons h3 r =>
          cases r
          cases h3
          exact ⟨_, _, _, rfl, q, h1, h2⟩
theorem tp_raw {a : Addr} {vh vl : V} {h l : List Int} {r : Int} (q : SqT K H a [vh, vl, .int r]) (h1 : Tp K H vh (intsD h)) (h2 : Tp K H vl (intsD l)) : Tp K H (.ref a) (rawD (h, l, r)) :=
  .tup q (.cons h1 (.cons h2 (.cons (.int r) .nil)))
mutual
/-- an instance that changes is no part of such data -/
theorem tp_upd {p C dx : Addr} {fs : List (Str × V)} {o : HO} (hp : H p = some (.ins C dx fs)) : ∀ {v : V} {d : PyData}, Tp K H v d → Tp K (upd H p o) v d
  | _, _, .non => .non
  | _, _, .bl b => .bl b
  | _, _, .int i => .int i
  | _, _, .str x => .str x
  | _, _, .tup h r => .tup (by
      rcases h with (h | ⟨u, h⟩) | h
      · exact .inl (.inl (by rw [upd_ne (fun z => by rw [z, hp] at h; cases h)]; exact h))
      · exact .inl (.inr ⟨u, by rw [upd_ne (fun z => by rw [z, hp] at h; cases h)]; exact h⟩)
      · exact .inr h) (tpAll_upd hp r)
theorem tpAll_upd {p C dx : Addr} {fs : List (Str × V)} {o : HO} (hp : H p = some (.ins C dx fs)) : ∀ {vs : List V} {ds : List PyData}, TpAll K H vs ds → TpAll K (upd H p o) vs ds
  | _, _, .nil => .nil
  | _, _, .cons h r => .cons (tp_upd hp h) (tpAll_upd hp r)
end
theorem sq_t {a : Addr} {xs : List V} (h : H a = some (.tup xs)) : SqT K H a xs := Evl.st_of h
theorem sq_l {a : Addr} {xs : List V} (h : H a = some (.lst xs)) : SqL K H a xs := Evl.sq_of h
end
/-- the same rules, the written part told -/
def rTupOf (K : PySem.W.Frag) : List V → Hp → VK → Prop := fun xs H Q => ∃ p ys, xs = [.ref p] ∧ ((SqL K H p ys ∧ ∀ l, H l = none → Q (.ref l) (upd H l (.tup ys))) ∨ (SqT K H p ys ∧ Q (.ref p) H))
theorem pe_fldK {X : Cx} {K : PySem.W.Frag} {e : Expr} {f : Str} {pos : Pos} {ta : TE} (he : PE X e ta) (hb : attributeBase e f X.env (eval e X.env) = eval e X.env) (hK : X.K = K) : PE X (.Attribute e f pos) (tFld K ta f) := by
  rw [← hK]; exact pe_fld he hb
/-- the instances of the class at C may be called -/
structure Clo (P : Program) (w : World) (K : PySem.W.Frag) (mg : Str → Option Value) (base : Heap) (k : Nat) (C : Addr) (sp : Sp) : Prop where
  ex : ∃ g : Addr, StX.CallO K C g ∧ FnR P w K mg base CX0 k g sp
def tTab (C : Addr) (sp : Sp) (tf : TE) (t : TA) : TE := fun σ H Q => tf σ H fun y H1 => ∃ a, y = V.ref a ∧ t σ H1 fun vs H2 => (∃ dx fs, H2 a = some (.ins C dx fs)) ∧ sp (V.ref a :: vs) H2 Q E0
theorem pe_tab {X : Cx} {k j : Nat} {C : Addr} {sp : Sp} {fe e : Expr} {es : List Expr} {tf : TE} {t : TA} {pos : Pos} (c : Clo X.prog X.w X.K X.mg X.base k C sp) (hr : Room j X.A) (hk : k ≤ j) (hf : PE X fe tf) (ha : PA X (e :: es) t)
    (ht : eval (.Call fe (e :: es) [] pos) X.env = (do callWith pos (← eval fe X.env) [] (backTo pos (starEach (e :: es) X.env)) (backToKw pos (keywordEach [] X.env))) := by rfl)
    (he : starEach (e :: es) X.env = (false, eval e X.env) :: starEach es X.env := by rfl) (hpl : (backTo pos (starEach es X.env)).any (·.1) = false := by rfl) : PE X (.Call fe (e :: es) [] pos) (tTab C sp tf t) := by
  obtain ⟨g, c1, F⟩ := c.ex
  refine ⟨fun pins s σ H Q I h => ?_⟩
  refine Call_ (thn (hf.run pins s σ H _ I h) fun u s1 ⟨y, H1, I1, ry, a, ey, q⟩ => ?_) ht
  subst ey
  obtain rfl : u = Value.ref a := ry
  refine StX.callO_with (thn (ha.run pos pins s1 σ H1 _ I1 q) fun us s2 ⟨vs, H2, I2, r, hi, q2⟩ => ⟨?_, ?_⟩) he hpl
  · obtain ⟨ox, od, J, hd⟩ := StX.insC_at I2 (.inr hi)
    exact ⟨C, ox, od, J, hd⟩
  · exact StX.run_callO c1 F (hr.mono hk) (fun _ _ _ _ _ _ _ z => z.elim) I2 (.inr hi) r q2
/-! ### comprehensions over anything that walks: item by item -/
/-- what a comprehension asks of its walk -/
def LB (te : TE) (σ : L2.St) (j : Nat) (Q : VK) (J : It) (H1 : Hp) : Prop := ∀ D, H1 D = none → ∃ W : Nat → Nat → Hp → Prop, (∃ m, W 0 m (upd H1 D (.lst []))) ∧ ∀ i m H, W i m H →
  (J.stop i H ∧ Q (.ref D) H) ∨ (J.go i H ∧ ∃ Nx : Hp → Prop, (∀ H', Nx H' → ∃ m', m' < m ∧ W (i + 1) m' H') ∧ ∀ x H', J.yld i H x H' → gName j x (wipe σ [j]) H' fun σ2 H2 => wipe σ2 [j] = wipe σ [j] ∧ tYes σ2 H2 fun b H3 =>
    if b = true then te σ2 H3 fun y H4 => ∃ acc, H4 D = some (.lst acc) ∧ acc.length < sizeLine ∧ Nx (upd H4 D (.lst (acc ++ [y]))) else Nx H3)
theorem lc_lb {wi : TI} {te : TE} {σ : L2.St} {j : Nat} {H : Hp} {Q : VK} (h : wi σ H (LB te σ j Q)) : tLc wi (gName j) tYes te [j] σ H Q := h
theorem cb1 {r : List V → Hp → VK → Prop} {te : TE} {σ : L2.St} {H : Hp} {Q : VK} (h : te σ H fun x H1 => r [x] H1 Q) : tCB r (tCons te tNil) σ H Q := h
theorem cl1 {sp : Sp} {E : XK} {te : TE} {σ : L2.St} {H : Hp} {Q : VK} (h : te σ H fun x H1 => sp [x] H1 Q E) : tCall sp [] E (tCons te tNil) σ H Q := h
theorem as1 {te : TE} {i : Nat} {D : Ends} {σ : L2.St} {H : Hp} (h : te σ H fun x H1 => D.nx (σ.set i (some x)) H1) : tAsg te (gName i) D σ H := h
theorem lc_map {J : It} {n : Nat} {G : Hp → Prop} {Xi : Nat → V → Prop} (w : Walk J n G fun i H x H' => H' = H ∧ Xi i x) {te : TE} {σ : L2.St} {H1 : Hp} {Q : VK} {j : Nat} (R : Nat → V → Hp → Prop)
    (mG : ∀ H H', Ex H H' → G H → G H') (mR : ∀ i y H H', Kp H H' → R i y H → R i y H') (hG : G H1) (hz : n < 1000000)
    (he : ∀ (i : Nat) (x : V) (H' : Hp) (Q : VK), i < n → Xi i x → Ex H1 H' → (∀ y H4, Ex H' H4 → R i y H4 → Q y H4) → te ((σ.set j none).set j (some x)) H' Q)
    (k : ∀ (D : Addr) (ys : List V) (H' : Hp), ys.length = n → H1 D = none → Ex H1 H' → H' D = some (.lst ys) → (∀ i y, ys[i]? = some y → R i y H') → Q (.ref D) H') : LB te σ j Q J H1 := by
  intro D hD
  refine lc_it w (fun i H' => Ex H1 H' ∧ ∃ ys : List V, H' D = some (.lst ys) ∧ ys.length = i ∧ ∀ i y, ys[i]? = some y → R i y H') ?_ ?_ ?_ ?_
  · exact ⟨Evl.Ex.new hD, [], upd_same, rfl, fun i y h => by simp at h⟩
  · intro i H _ ⟨e, _⟩
    exact mG _ _ e hG
  · rintro i x H H' hi ⟨e, ys, hy, hl, hr⟩ ⟨rfl, hx⟩
    refine ⟨?_, ?_⟩
    · show ((σ.set j none).set j (some x)).set j none = σ.set j none
      rw [List.set_set, List.set_set]
    · unfold tYes
      dsimp only
      rw [if_pos rfl]
      refine he i x H' _ hi hx e fun y H4 e4 r4 => ?_
      have h4 := e4 D _ hy
      refine ⟨ys, h4, ?_, Evl.Ex.mut (e.trans e4) hD, ys ++ [y], upd_same, by rw [List.length_append, hl]; rfl, fun i' y' h' => ?_⟩
      · rw [hl]; exact Nat.lt_of_lt_of_le (Nat.lt_trans hi hz) (by decide)
      · by_cases c : i' < ys.length
        · rw [List.getElem?_append_left c] at h'
          exact mR _ _ _ _ ((Kp.of e4).trans (Kp.lst h4)) (hr i' y' h')
        · rw [List.getElem?_append_right (Nat.le_of_not_lt c)] at h'
          have e0 : i' - ys.length = 0 := by
            cases z : i' - ys.length with
            | zero => rfl
            | succ m => rw [z] at h'; simp at h'
          rw [e0] at h'
          have e1 : i' = i := by omega
          simp only [List.getElem?_cons_zero, Option.some.injEq] at h'
          rw [← h', e1]
          exact mR _ _ _ _ (Kp.lst h4) r4
  · rintro H ⟨e, ys, hy, hl, hr⟩
    exact k D ys H hl hD e hy hr
/-- what a for asks of its walk -/
def FB (g : TG) (tb : TS) (D : Ends) (σ : L2.St) (J : It) (H1 : Hp) : Prop := ∃ W : Nat → Nat → L2.St → Hp → Prop, (∃ m, W 0 m σ H1) ∧ ∀ i m σ H, W i m σ H →
  (J.stop i H ∧ D.nx σ H) ∨ (J.go i H ∧ ∃ N : L2.St → Hp → Prop, (∀ σ' H', N σ' H' → ∃ m', m' < m ∧ W (i + 1) m' σ' H') ∧ ∀ x H', J.yld i H x H' → g x σ H' fun σ2 H2 => tb { D with nx := N, ct := N, bk := D.nx } σ2 H2)
theorem fr_fb {wi : TI} {g : TG} {tb : TS} {D : Ends} {σ : L2.St} {H : Hp} (h : wi σ H (FB g tb D σ)) : tFor wi g tb D σ H := h
theorem fb_go {J : It} {n : Nat} {G : Hp → Prop} {Xi : Nat → V → Prop} (w : Walk J n G fun i H x H' => H' = H ∧ Xi i x) {g : TG} {tb : TS} {D : Ends} {σ : L2.St} {H : Hp} (Pv : Nat → L2.St → Hp → Prop) (h0 : Pv 0 σ H) (hG : ∀ i σ H, i ≤ n → Pv i σ H → G H)
    (hs : ∀ i x σ H, i < n → Xi i x → Pv i σ H → g x σ H fun σ2 H2 => tb { D with nx := Pv (i + 1), ct := Pv (i + 1), bk := D.nx } σ2 H2) (hd : ∀ σ H, Pv n σ H → D.nx σ H) : FB g tb D σ J H :=
  for_it w Pv h0 hG (fun i x σ H H' hi p y => by
    obtain ⟨rfl, hx⟩ := y
    exact hs i x σ _ hi hx p) hd
theorem gn1 {i : Nat} {v : V} {σ : L2.St} {H : Hp} {Q : L2.St → Hp → Prop} (h : Q (σ.set i (some v)) H) : gName i v σ H Q := h
theorem tb1 {te : TE} {σ : L2.St} {H : Hp} {Q : Bool → Hp → Prop} (h : te σ H fun x H1 => ∃ c, x = .bl c ∧ Q c H1) : tB te σ H Q := h
theorem if1 {tc : TT} {t u : TS} {D : Ends} {σ : L2.St} {H : Hp} (h : tc σ H fun b H1 => if b = true then t D σ H1 else u D σ H1) : tIfS tc t u D σ H := h
theorem sq1 {t u : TS} {D : Ends} {σ : L2.St} {H : Hp} (h : t { D with nx := u D } σ H) : tSeq t u D σ H := h
theorem rt1 {te : TE} {D : Ends} {σ : L2.St} {H : Hp} (h : te σ H D.rt) : tRet te D σ H := h
theorem cs1 {te : TE} {tr : TA} {σ : L2.St} {H : Hp} {Q : List V → Hp → Prop} (h : te σ H fun x H1 => tr σ H1 fun xs H2 => Q (x :: xs) H2) : tCons te tr σ H Q := h
theorem tp1 {ta : TA} {σ : L2.St} {H : Hp} {Q : VK} (h : ta σ H fun xs H1 => xs.length ≤ sizeLine ∧ ∀ p, H1 p = none → Q (.ref p) (upd H1 p (.tup xs))) : tTup ta σ H Q := h
/-- walks that hand on items as they stand -/
theorem wk_list {K : PySem.W.Frag} {a : Addr} {xs : List V} : Walk (Itl K a) xs.length (fun H => SqL K H a xs) (fun i H x H' => H' = H ∧ xs[i]? = some x) := walk_list
theorem wk_tup {K : PySem.W.Frag} {a : Addr} {xs : List V} : Walk (Itt K a) xs.length (fun H => SqT K H a xs) (fun i H x H' => H' = H ∧ xs[i]? = some x) := walk_tup
theorem wk_range {lo : Int} {n : Nat} : Walk (Itr lo n) n (fun _ => True) (fun i H x H' => H' = H ∧ x = .int (lo + i)) := walk_range
end K28
end
section
set_option autoImplicit false
set_option linter.unusedVariables false
/-! Tables as head, loop, rise: the values they tell, and the one plain form. Plain Lean, no program. -/
namespace K28

/-- the value at the place n + 1 -/
def val (h l : List Int) (r : Int) (n : Nat) : Int :=
  if n < h.length then h.getD n 0 else l.getD ((n - h.length) % l.length) 0 + r * (((n - h.length) / l.length : Nat) : Int)

def QP (v : Nat → Int) (N p : Nat) (s : Int) : Prop := ∀ n, N ≤ n → v (n + p) = v n + s

theorem val_lt {h l : List Int} {r : Int} {n : Nat} (hn : n < h.length) : val h l r n = h.getD n 0 := by
  unfold val; rw [if_pos hn]
theorem val_ge {h l : List Int} {r : Int} (t : Nat) : val h l r (h.length + t) = l.getD (t % l.length) 0 + r * ((t / l.length : Nat) : Int) := by
  unfold val; rw [if_neg (by omega), Nat.add_sub_cancel_left]
theorem val_loop {h l : List Int} {r : Int} {i : Nat} (hi : i < l.length) : val h l r (h.length + i) = l.getD i 0 := by
  rw [val_ge, Nat.mod_eq_of_lt hi, Nat.div_eq_of_lt hi]; simp
theorem val_qp {h l : List Int} {r : Int} (hl : 0 < l.length) : QP (val h l r) h.length l.length r := by
  intro n hn
  obtain ⟨t, rfl⟩ := Nat.exists_eq_add_of_le hn
  rw [Nat.add_assoc, val_ge, val_ge, Nat.add_mod_right, Nat.add_div_right _ hl]
  have : ((Nat.succ (t / l.length) : Nat) : Int) = ((t / l.length : Nat) : Int) + 1 := by omega
  rw [this, Int.mul_add, Int.mul_one, Int.add_assoc]

section
variable {v : Nat → Int} {N M p a b m k : Nat} {s t : Int}
theorem QP.mono (h : QP v N p s) (e : N ≤ M) : QP v M p s := fun n hn => h n (Nat.le_trans e hn)
theorem QP.zero : QP v N 0 0 := fun n _ => by simp
theorem QP.add (h : QP v N a s) (h' : QP v N b t) : QP v N (a + b) (s + t) := fun n hn => by
  have e1 := h n hn
  have e2 := h' (n + a) (by omega)
  rw [← Nat.add_assoc, e2, e1, Int.add_assoc]
theorem QP.mul (h : QP v N p s) : ∀ k : Nat, QP v N (p * k) (s * (k : Int))
  | 0 => by rw [Nat.mul_zero]; simpa using (QP.zero (v := v) (N := N))
  | k + 1 => by
    have e := (QP.mul h k).add h
    rw [Nat.mul_succ]
    have : s * ((k + 1 : Nat) : Int) = s * (k : Int) + s := by rw [Int.natCast_add, Int.mul_add]; simp
    rw [this]; exact e
theorem QP.sub (h : QP v N (a + b) s) (h' : QP v N b t) : QP v (N + b) a (s - t) := fun n hn => by
  obtain ⟨q, rfl⟩ := Nat.exists_eq_add_of_le hn
  have e1 := h (N + q) (by omega)
  have e2 := h' (N + q) (by omega)
  have x1 : N + q + (a + b) = N + b + q + a := by omega
  have x2 : N + q + b = N + b + q := by omega
  rw [x1] at e1; rw [x2] at e2
  omega
/-- a period far out holds from where some period holds -/
theorem QP.back (hp : 0 < p) (h : QP v N p s) (h' : QP v M m t) : QP v N m t := fun n hn => by
  have hk := h.mul M
  have ge : M ≤ p * M := by
    have := Nat.mul_le_mul_right M (show 1 ≤ p from hp)
    omega
  have e1 := hk (n + m) (by omega)
  have e2 := hk n hn
  have e3 := h' (n + p * M) (by omega)
  have x : n + m + p * M = n + p * M + m := by omega
  rw [x] at e1
  omega
theorem QP.shift_eq (h : QP v N p s) (h' : QP v M p t) : s = t := by
  have e1 := h (N + M) (by omega)
  have e2 := h' (N + M) (by omega)
  omega

def EP (v : Nat → Int) (p : Nat) : Prop := ∃ N s, QP v N p s
theorem EP.mod (hb : EP v b) : ∀ a, EP v a → EP v (a % b) := by
  intro a
  induction a using Nat.strongRecOn with
  | ind a ih =>
    intro ha
    by_cases hlt : a < b
    · rw [Nat.mod_eq_of_lt hlt]; exact ha
    · by_cases h0 : b = 0
      · subst h0; rw [Nat.mod_zero]; exact ha
      · obtain ⟨N, s, h⟩ := ha
        obtain ⟨M, t, h'⟩ := hb
        obtain ⟨c, rfl⟩ := Nat.exists_eq_add_of_le (Nat.le_of_not_lt hlt)
        have q := (h.mono (Nat.le_add_right N M))
        rw [Nat.add_comm b c] at q
        have q2 := q.sub (h'.mono (Nat.le_add_left M N))
        have e := ih c (by omega) ⟨_, _, q2⟩
        rw [Nat.add_mod_left]; exact e
theorem EP.least (hp : 0 < p) (h : EP v p) : ∃ g, 0 < g ∧ g ≤ p ∧ EP v g ∧ (∀ m, 0 < m → m < g → ¬ EP v m) := by
  induction p using Nat.strongRecOn with
  | ind p ih =>
    by_cases q : ∃ m, 0 < m ∧ m < p ∧ EP v m
    · obtain ⟨m, m0, mp, hm⟩ := q
      obtain ⟨g, g0, gm, hg, l⟩ := ih m mp m0 hm
      exact ⟨g, g0, by omega, hg, l⟩
    · exact ⟨p, hp, Nat.le_refl _, h, fun m m0 mp hm => q ⟨m, m0, mp, hm⟩⟩
theorem EP.dvd {g : Nat} (g0 : 0 < g) (hg : EP v g) (l : ∀ m, 0 < m → m < g → ¬ EP v m) (h : EP v p) : g ∣ p := by
  have e := EP.mod hg p h
  by_cases z : p % g = 0
  · exact Nat.dvd_of_mod_eq_zero z
  · exact absurd e (l _ (by omega) (Nat.mod_lt _ g0))
end

/-- the plain form of the values v -/
structure Canon (v : Nat → Int) (h l : List Int) (r : Int) : Prop where
  pos : 0 < l.length
  same : ∀ n, val h l r n = v n
  least : ∀ m, 0 < m → m < l.length → ¬ EP v m
  trim : ∀ k, h.length = k + 1 → v (k + l.length) ≠ v k + r

theorem list_ext {l l' : List Int} (hl : l.length = l'.length) (h : ∀ i, i < l.length → l.getD i 0 = l'.getD i 0) : l = l' := by
  refine List.ext_getElem hl fun i h1 h2 => ?_
  have := h i h1
  rw [List.getD_eq_getElem?_getD, List.getD_eq_getElem?_getD, List.getElem?_eq_getElem h1, List.getElem?_eq_getElem h2] at this
  exact this

theorem Canon.qp {v : Nat → Int} {h l : List Int} {r : Int} (c : Canon v h l r) : QP v h.length l.length r := fun n hn => by
  rw [← c.same, ← c.same]; exact val_qp c.pos n hn

theorem Canon.unique {v : Nat → Int} {h l h' l' : List Int} {r r' : Int} (c : Canon v h l r) (c' : Canon v h' l' r') : h = h' ∧ l = l' ∧ r = r' := by
  have q := c.qp
  have q' := c'.qp
  have el : l.length = l'.length := by
    rcases Nat.lt_trichotomy l.length l'.length with x | x | x
    · exact absurd ⟨_, _, q⟩ (c'.least _ c.pos x)
    · exact x
    · exact absurd ⟨_, _, q'⟩ (c.least _ c'.pos x)
  rw [← el] at q'
  have er : r = r' := q.shift_eq q'
  have key : ∀ (h h' l l' : List Int), Canon v h l r → Canon v h' l' r → l.length = l'.length → ¬ h.length < h'.length := by
    intro h h' l l' c c' el x
    have q := c.qp
    obtain ⟨k, hk⟩ : ∃ k, h'.length = k + 1 := ⟨h'.length - 1, by omega⟩
    refine c'.trim k hk ?_
    rw [← el]
    exact q k (by omega)
  subst er
  have eh : h.length = h'.length := by
    have a := key h h' l l' c c' el
    have b := key h' h l' l c' c el.symm
    omega
  have ehh : h = h' := list_ext eh fun i hi => by
    have a := c.same i
    have b := c'.same i
    rw [val_lt hi] at a
    rw [val_lt (eh ▸ hi)] at b
    rw [a, b]
  subst ehh
  refine ⟨rfl, list_ext el fun i hi => ?_, rfl⟩
  have a := c.same (h.length + i)
  have b := c'.same (h.length + i)
  rw [val_loop hi] at a
  rw [val_loop (el ▸ hi)] at b
  rw [a, b]

/-! ### the short loop -/
/-- m is a loop that goes on in the same way -/
def Sc (l : List Int) (r : Int) (m : Nat) : Prop :=
  m ∣ l.length ∧ (((l.length / m : Nat) : Int) ∣ r) ∧ ∀ i, i + m < l.length → l.getD (i + m) 0 = l.getD i 0 + r / ((l.length / m : Nat) : Int)

theorem sc_full {l : List Int} {r : Int} (hl : 0 < l.length) : Sc l r l.length := by
  refine ⟨Nat.dvd_refl _, ?_, fun i hi => absurd hi (by omega)⟩
  rw [Nat.div_self hl]; exact Int.one_dvd r

theorem sc_get {l : List Int} {r : Int} {m : Nat} (hm : 0 < m) (hc : Sc l r m) : ∀ i, i < l.length → l.getD i 0 = l.getD (i % m) 0 + r / ((l.length / m : Nat) : Int) * ((i / m : Nat) : Int) := by
  intro i
  induction i using Nat.strongRecOn with
  | ind i ih =>
    intro hi
    by_cases hlt : i < m
    · rw [Nat.mod_eq_of_lt hlt, Nat.div_eq_of_lt hlt]; simp
    · obtain ⟨c, rfl⟩ := Nat.exists_eq_add_of_le (Nat.le_of_not_lt hlt)
      have e := ih c (by omega) (by omega)
      have e2 := hc.2.2 c (by omega)
      rw [Nat.add_comm m c, e2, e, Nat.add_mod_right, Nat.add_div_right _ hm]
      have : ((Nat.succ (c / m) : Nat) : Int) = ((c / m : Nat) : Int) + 1 := by omega
      rw [this, Int.mul_add, Int.mul_one, Int.add_assoc]

theorem sc_val {h l : List Int} {r : Int} {m : Nat} (hl : 0 < l.length) (hm : 0 < m) (hc : Sc l r m) (n : Nat) : val h (l.take m) (r / ((l.length / m : Nat) : Int)) n = val h l r n := by
  by_cases hn : n < h.length
  · rw [val_lt hn, val_lt hn]
  · obtain ⟨t, rfl⟩ := Nat.exists_eq_add_of_le (Nat.le_of_not_lt hn)
    obtain ⟨c, hcl⟩ := hc.1
    have c0 : 0 < c := by
      rcases Nat.eq_zero_or_pos c with z | z
      · rw [z, Nat.mul_zero] at hcl; omega
      · exact z
    have hml : m ≤ l.length := Nat.le_of_dvd hl hc.1
    have htk : (l.take m).length = m := by rw [List.length_take]; omega
    have hdv : l.length / m = c := by rw [hcl]; exact Nat.mul_div_cancel_left c hm
    obtain ⟨s, hs⟩ := hc.2.1
    have hr : r / ((l.length / m : Nat) : Int) = s := by
      rw [hs]; exact Int.mul_ediv_cancel_left _ (by rw [hdv]; omega)
    rw [val_ge, val_ge, htk]
    have hq : t % l.length < l.length := Nat.mod_lt _ hl
    rw [sc_get hm hc _ hq, hr]
    have e1 : (l.take m).getD (t % m) 0 = l.getD (t % m) 0 := by
      rw [List.getD_eq_getElem?_getD, List.getD_eq_getElem?_getD, List.getElem?_take_of_lt (Nat.mod_lt _ hm)]
    have e2 : t % l.length % m = t % m := Nat.mod_mod_of_dvd t hc.1
    rw [e1, e2]
    have e3 : t / m = t % l.length / m + c * (t / l.length) := by
      have z := Nat.div_add_mod t l.length
      have z2 : t = t % l.length + m * (c * (t / l.length)) := by rw [← Nat.mul_assoc, ← hcl]; omega
      calc t / m = (t % l.length + m * (c * (t / l.length))) / m := by rw [← z2]
        _ = _ := Nat.add_mul_div_left _ _ hm
    rw [e3, hs, hdv]
    have : ((t % l.length / m + c * (t / l.length) : Nat) : Int) = ((t % l.length / m : Nat) : Int) + (c : Int) * ((t / l.length : Nat) : Int) := by
      rw [Int.natCast_add, Int.natCast_mul]
    rw [this, Int.mul_add, ← Int.mul_assoc, Int.mul_comm s (c : Int), Int.add_assoc]

theorem sc_of_qp {h l : List Int} {r : Int} {g N : Nat} {s : Int} (hl : 0 < l.length) (g0 : 0 < g) (hg : QP (val h l r) N g s) (hd : g ∣ l.length) : Sc l r g := by
  have q := val_qp (h := h) (r := r) hl
  have b := QP.back hl q hg
  obtain ⟨c, hc⟩ := hd
  have c0 : 0 < c := by
    rcases Nat.eq_zero_or_pos c with z | z
    · rw [z, Nat.mul_zero] at hc; omega
    · exact z
  have hdv : l.length / g = c := by rw [hc]; exact Nat.mul_div_cancel_left c g0
  have e : r = s * (c : Int) := by
    have z := b.mul c
    rw [← hc] at z
    exact q.shift_eq z
  have hr : r / ((l.length / g : Nat) : Int) = s := by
    rw [e, hdv]; exact Int.mul_ediv_cancel _ (by omega)
  refine ⟨⟨c, hc⟩, ?_, fun i hi => ?_⟩
  · rw [hdv, e]; exact Int.dvd_mul_left _ _
  · have z := b (h.length + i) (by omega)
    rw [Nat.add_assoc, val_loop hi, val_loop (by omega)] at z
    rw [z, hr]

theorem short_least {h l : List Int} {r : Int} {m : Nat} (hl : 0 < l.length) (hle : ∀ k, 0 < k → k < m → ¬ Sc l r k) : ∀ k, 0 < k → k < m → ¬ EP (val h l r) k := by
  intro k k0 km hk
  obtain ⟨g, g0, gk, hg, lst⟩ := EP.least k0 hk
  have hd : g ∣ l.length := EP.dvd g0 hg lst ⟨_, _, val_qp hl⟩
  obtain ⟨N, s, q⟩ := hg
  exact hle g g0 (by omega) (sc_of_qp hl g0 q hd)

/-! ### the head cut short -/
theorem val_of {v : Nat → Int} {K p : Nat} {r : Int} (hp : 0 < p) (hq : QP v K p r) (n : Nat) :
    val ((List.range K).map v) ((List.range p).map fun i => v (K + i)) r n = v n := by
  by_cases hn : n < K
  · rw [val_lt (by simpa using hn), List.getD_eq_getElem?_getD]
    simp [hn]
  · obtain ⟨t, rfl⟩ := Nat.exists_eq_add_of_le (Nat.le_of_not_lt hn)
    have e := val_ge (h := (List.range K).map v) (l := (List.range p).map fun i => v (K + i)) (r := r) t
    simp only [List.length_map, List.length_range] at e
    rw [e, List.getD_eq_getElem?_getD]
    have hlt : t % p < p := Nat.mod_lt _ hp
    simp only [List.getElem?_map, List.getElem?_range hlt, Option.map_some, Option.getD_some]
    have z := hq.mul (t / p) (K + t % p) (by omega)
    have x : K + t % p + p * (t / p) = K + t := by have := Nat.div_add_mod t p; omega
    rw [x] at z
    exact z.symm

theorem canon_of {v : Nat → Int} {K p : Nat} {r : Int} (hp : 0 < p) (hq : QP v K p r) (hl : ∀ m, 0 < m → m < p → ¬ EP v m) (ht : ∀ k, K = k + 1 → v (k + p) ≠ v k + r) :
    Canon v ((List.range K).map v) ((List.range p).map fun i => v (K + i)) r where
  pos := by simpa using hp
  same := val_of hp hq
  least := fun m m0 mp => hl m m0 (by simpa using mp)
  trim := fun k hk => by
    have e := ht k (by simpa using hk)
    simpa using e

theorem back_eq {h l : List Int} {r : Int} (p0 : 0 < l.length) {n : Nat} (hn : n < h.length) (hq : QP (val h l r) (n + 1) l.length r) :
    val h l r (n + l.length) = l.getD (l.length - 1 - (h.length - 1 - n) % l.length) 0 - r * (((h.length - 1 - n) / l.length : Nat) : Int) := by
  have hm : (h.length - 1 - n) % l.length < l.length := Nat.mod_lt _ p0
  have e1 := hq.mul ((h.length - 1 - n) / l.length) (n + l.length) (by omega)
  have e2 := Nat.div_add_mod (h.length - 1 - n) l.length
  have e3 : n + l.length + l.length * ((h.length - 1 - n) / l.length) = h.length + (l.length - 1 - (h.length - 1 - n) % l.length) := by omega
  rw [e3, val_loop (by omega)] at e1
  omega
theorem qp_down {v : Nat → Int} {n p : Nat} {r : Int} (h : QP v (n + 1) p r) (e : v (n + p) = v n + r) : QP v n p r := fun m hm => by
  by_cases c : m = n
  · rw [c]; exact e
  · exact h m (by omega)
/-- the two forms tell the same -/
def Plain (a b : List Int × List Int × Int) : Prop :=
  if a.2.1 = [] then b = (a.1, [], 0) else Canon (val a.1 a.2.1 a.2.2) b.1 b.2.1 b.2.2
theorem Plain.unique {a b c : List Int × List Int × Int} (h : Plain a b) (h' : Plain a c) : b = c := by
  unfold Plain at h h'
  by_cases e : a.2.1 = []
  · rw [if_pos e] at h h'; rw [h, h']
  · rw [if_neg e] at h h'
    obtain ⟨x, y, z⟩ := h.unique h'
    obtain ⟨b1, b2, b3⟩ := b
    obtain ⟨c1, c2, c3⟩ := c
    simp only at x y z
    rw [x, y, z]
theorem Canon.congr {v w : Nat → Int} {h l : List Int} {r : Int} (c : Canon v h l r) (e : ∀ n, v n = w n) : Canon w h l r := by
  have : v = w := funext e
  rw [← this]; exact c
end K28
end
section
set_option Elab.async false
set_option linter.all false
set_option maxRecDepth 100000
set_option maxHeartbeats 4000000
namespace K28
open PySem PySem.Spec PyProof.Rows L2
open Evl (Ex)
theorem map_of {α : Type} {ys : List V} {xs : List α} {f : α → V} (hl : ys.length = xs.length) (h : ∀ (i : Nat) y, ys[i]? = some y → ∃ z, xs[i]? = some z ∧ y = f z) : ys = xs.map f := by
  refine List.ext_getElem? fun i => ?_
  cases e : ys[i]? with
  | none =>
    have := List.getElem?_eq_none_iff.mp e
    rw [List.getElem?_eq_none (by rw [List.length_map]; omega)]
  | some y =>
    obtain ⟨z, hz, rfl⟩ := h i y e
    rw [List.getElem?_map, hz]; rfl
theorem get_map {α : Type} {xs : List α} {f : α → V} {i : Nat} {y : V} (h : (xs.map f)[i]? = some y) : ∃ z, xs[i]? = some z ∧ y = f z := by
  rw [List.getElem?_map] at h
  cases e : xs[i]? with
  | none => rw [e] at h; cases h
  | some z => rw [e] at h; exact ⟨z, rfl, (Option.some.inj h).symm⟩
theorem dInt (a b : Int) : decide (V.int a = V.int b) = decide (a = b) := by
  by_cases h : a = b
  · subst h; simp
  · have : ¬ V.int a = V.int b := fun q => h (V.int.inj q)
    rw [decide_eq_false h, decide_eq_false this]
theorem ka_tuple {K : PySem.W.Frag} : PySem.W.kitAny K (.type "tuple") [.type "tuple", .type "list"] = some true := by
  unfold PySem.W.kitAny; rw [kit_ty (r := true) (by decide +kernel)]
theorem ka_list {K : PySem.W.Frag} : PySem.W.kitAny K (.type "list") [.type "tuple", .type "list"] = some true := by
  unfold PySem.W.kitAny; rw [kit_ty (r := false) (by decide +kernel)]
  unfold PySem.W.kitAny; rw [kit_ty (r := true) (by decide +kernel)]
theorem ka_no {K : PySem.W.Frag} {T : String} (h1 : PySem.W.kitOne K (.type T) (.type "tuple") = some false) (h2 : PySem.W.kitOne K (.type T) (.type "list") = some false) : PySem.W.kitAny K (.type T) [.type "tuple", .type "list"] = some false := by
  unfold PySem.W.kitAny; rw [h1]
  unfold PySem.W.kitAny; rw [h2]
  rfl
theorem ka_int {K : PySem.W.Frag} : PySem.W.kitAny K (.type "int") [.type "tuple", .type "list"] = some false := ka_no (kit_ty (by decide +kernel)) (kit_ty (by decide +kernel))
theorem ka_str {K : PySem.W.Frag} : PySem.W.kitAny K (.type "str") [.type "tuple", .type "list"] = some false := ka_no (kit_ty (by decide +kernel)) (kit_ty (by decide +kernel))
theorem ka_none {K : PySem.W.Frag} : PySem.W.kitAny K (.type "NoneType") [.type "tuple", .type "list"] = some false := ka_no (kit_ty (by decide +kernel)) (kit_ty (by decide +kernel))
/-- a list or a tuple -/
def SqA (K : PySem.W.Frag) (H : Hp) (a : Addr) (xs : List V) : Prop := SqL K H a xs ∨ SqT K H a xs
theorem SqA.ex {K : PySem.W.Frag} {H H' : Hp} {a : Addr} {xs : List V} (e : Ex H H') (h : SqA K H a xs) : SqA K H' a xs := h.imp (Evl.ex_l e) (Evl.ex_t e)
theorem SqA.ty {K : PySem.W.Frag} {H : Hp} {a : Addr} {xs : List V} (h : SqA K H a xs) : ∃ T, TyX K H (.ref a) (.type T) ∧ PySem.W.kitAny K (.type T) [.type "tuple", .type "list"] = some true := by
  rcases h with h | h
  · exact ⟨_, tyx_l h, ka_list⟩
  · exact ⟨_, tyx_t h, ka_tuple⟩
section
variable {P : Program} {w : World} {K : PySem.W.Frag} {mg : Str → Option Value} {base : Heap} {CT CM : Addr}
/-! is_integer: of ints -/
def spInteger : Sp := fun vs H Q _ => ∃ i : Int, vs = [.int i] ∧ Q (.bl true) H
abbrev s_is_integer : Stmt := top 14
theorem sc_is_integer : FnScope ["thing"] ["thing"] (defScope s_is_integer) := ⟨rfl, rfl, rfl, by decide +kernel, rfl, by decide +kernel, by decide +kernel⟩
theorem ok_is_integer {f : Addr} {fd : FuncData} (F : Fun K "is_integer" "is_integer" s_is_integer f fd) (T : Txt K mg CT CM) : FnOk P w K mg base CX0 1 f fd ["thing"] spInteger := by
  refine F.ok sc_is_integer (fun vs H Q E h => ?_) (fun cdv A outer s H vs Q E hr h => ?_)
  · obtain ⟨i, rfl, _⟩ := h
    rfl
  · obtain ⟨i, rfl, q⟩ := h
    refine ⟨_, (pss_one (ps_ret (pe_and (pe_callB (r := rIsi K) call_isi (by rfl) T.b_isinstance (by decide +kernel) (pa_cons (pv 0) (pa_cons (pe_bltn (v := .ty "int") rfl T.b_int (by decide +kernel) rfl) pa_nil))) (pe_one (pe_not (pe_callB (r := rIsi K) call_isi (by rfl) T.b_isinstance (by decide +kernel) (pa_cons (pv 0) (pa_cons (pe_bltn (v := .ty "bool") rfl T.b_bool (by decide +kernel) rfl) pa_nil)))))))), ?_⟩
    refine ⟨_, rfl, _, _, _, _, true, rfl, .ty _, .base (.int i), kit_ty (by decide +kernel), true, rfl, ?_⟩
    refine iteT ⟨_, rfl, _, _, _, _, false, rfl, .ty _, .base (.int i), kit_ty (by decide +kernel), false, rfl, ?_⟩
    exact q
/-! is_count -/
def spCount : Sp := fun vs H Q _ => ∃ i : Int, vs = [.int i] ∧ Q (.bl (decide (0 ≤ i))) H
abbrev s_is_count : Stmt := top 15
theorem sc_is_count : FnScope ["thing"] ["thing"] (defScope s_is_count) := ⟨rfl, rfl, rfl, by decide +kernel, rfl, by decide +kernel, by decide +kernel⟩
theorem ok_is_count {f : Addr} {fd : FuncData} (F : Fun K "is_count" "is_count" s_is_count f fd) (T : Txt K mg CT CM) (c_is_integer : C8.Cal P w K mg base 1 "is_integer" spInteger []) : FnOk P w K mg base CX0 2 f fd ["thing"] spCount := by
  refine F.ok sc_is_count (fun vs H Q E h => ?_) (fun cdv A outer s H vs Q E hr h => ?_)
  · obtain ⟨i, rfl, _⟩ := h
    rfl
  · obtain ⟨i, rfl, q⟩ := h
    refine ⟨_, (pss_one (ps_ret (pe_and (C8.pe_c c_is_integer hr (by omega) rfl (pa_cons (pv 0) pa_nil)) (pe_one (pe_cmpR op_ge (pv 0) pe_int (nomark _)))))), ?_⟩
    exact ⟨_, rfl, i, rfl, true, rfl, iteT ⟨_, rfl, _, _, rfl, rfl, q⟩⟩
/-! is_listed -/
def spListed (K : PySem.W.Frag) : Sp := fun vs H Q _ => ∃ (x : V) (T : String) (b : Bool), vs = [x] ∧ TyX K H x (.type T) ∧ PySem.W.kitAny K (.type T) [.type "tuple", .type "list"] = some b ∧ ∀ H', Ex H H' → Q (.bl b) H'
abbrev s_is_listed : Stmt := top 16
theorem sc_is_listed : FnScope ["thing"] ["thing"] (defScope s_is_listed) := ⟨rfl, rfl, rfl, by decide +kernel, rfl, by decide +kernel, by decide +kernel⟩
theorem ok_is_listed {f : Addr} {fd : FuncData} (F : Fun K "is_listed" "is_listed" s_is_listed f fd) (T : Txt K mg CT CM) : FnOk P w K mg base CX0 1 f fd ["thing"] (spListed K) := by
  refine F.ok sc_is_listed (fun vs H Q E h => ?_) (fun cdv A outer s H vs Q E hr h => ?_)
  · obtain ⟨_, _, _, rfl, _⟩ := h
    rfl
  · obtain ⟨x, t, b, rfl, ty, hk, q⟩ := h
    refine ⟨_, (pss_one (ps_ret (pe_callB (r := rIsiT K) call_isiT (by rfl) T.b_isinstance (by decide +kernel) (pa_cons (pv 0) (pa_cons (pe_tup (pa_cons (pe_bltn (v := .ty "tuple") rfl T.b_tuple (by decide +kernel) rfl) (pa_cons (pe_bltn (v := .ty "list") rfl T.b_list (by decide +kernel) rfl) pa_nil))) pa_nil))))), ?_⟩
    exact ⟨_, rfl, (by show 2 ≤ sizeLine; decide), fun p hp => ⟨_, p, _, _, _, b, rfl, upd_same, .cons (.ty _) (.cons (.ty _) .nil), tyx_mono (Evl.Ex.new hp) ty, hk, q _ (Evl.Ex.new hp)⟩⟩
/-! is_counts: of lists and tuples of ints -/
def cnt (ns : List Int) : Bool := ns.all fun i => decide (0 ≤ i)
def spCounts (K : PySem.W.Frag) : Sp := fun vs H Q _ => ∃ (a : Addr) (ns : List Int), vs = [.ref a] ∧ SqA K H a (ns.map V.int) ∧ ns.length ≤ 100000 ∧ ∀ H', Ex H H' → Q (.bl (cnt ns)) H'
abbrev s_is_counts : Stmt := top 17
theorem sc_is_counts : FnScope ["thing", "one"] ["thing"] (defScope s_is_counts) := ⟨rfl, rfl, rfl, by decide +kernel, rfl, by decide +kernel, by decide +kernel⟩
theorem cnt_end {K : PySem.W.Frag} {H1 : Hp} {Q : VK} {ns : List Int} (q : ∀ H', Ex H1 H' → Q (.bl (cnt ns)) H') (D : Addr) (ys : List V) (H' : Hp) (hl : ys.length = (ns.map V.int).length) (e : Ex H1 H') (hD : H' D = some (.lst ys))
    (hr : ∀ (i : Nat) y, ys[i]? = some y → ∃ z, ns[i]? = some z ∧ y = .bl (decide (0 ≤ z))) : rAll K [.ref D] H' Q := by
  have ey : ys = (ns.map fun z => decide (0 ≤ z)).map V.bl := by
    rw [List.map_map]
    exact map_of (f := V.bl ∘ fun z => decide (0 ≤ z)) (by simpa using hl) fun i y h => hr i y h
  refine ⟨D, ns.map fun z => decide (0 ≤ z), rfl, sq_l (by rw [← ey]; exact hD), ?_⟩
  have : (ns.map fun z => decide (0 ≤ z)).all id = cnt ns := by simp [cnt, List.all_map, Function.comp_def]
  rw [this]
  exact q H' e
theorem ok_is_counts {f : Addr} {fd : FuncData} (F : Fun K "is_counts" "is_counts" s_is_counts f fd) (T : Txt K mg CT CM) (c_is_listed : C8.Cal P w K mg base 1 "is_listed" (spListed K) []) (c_is_count : C8.Cal P w K mg base 2 "is_count" spCount []) : FnOk P w K mg base CX0 3 f fd ["thing"] (spCounts K) := by
  refine F.ok sc_is_counts (fun vs H Q E h => ?_) (fun cdv A outer s H vs Q E hr h => ?_)
  · obtain ⟨_, _, rfl, _⟩ := h
    rfl
  · obtain ⟨a, ns, rfl, hS, hz, q⟩ := h
    obtain ⟨t, ty, hk⟩ := hS.ty
    have hz' : (ns.map V.int).length < 1000000 := by rw [List.length_map]; omega
    rcases hS with hS | hS
    · refine ⟨_, (pss_one (ps_ret (pe_and (C8.pe_c c_is_listed hr (by omega) rfl (pa_cons (pv 0) pa_nil)) (pe_one (pe_callB (r := rAll K) (cr_all rfl) (by rfl) T.b_all (by decide +kernel) (pa_cons (pe_lc (own := [("one", 1)]) (g := gName 1) (tt := tYes) rfl sc_is_counts.nd (pi_list (pv 0)) (blkOk_by (own := [("one", 1)]) (N := ["thing", "one"]) (sc := defScope s_is_counts) (by decide +kernel)) (fun _ _ _ _ _ => pg_name (i := 1) sc_is_counts.nd rfl (Or.inl rfl)) (fun _ _ _ _ _ => pts_nil) (fun _ _ _ _ _ => (C8.pe_c c_is_count hr (by omega) rfl (pa_cons (pv 1) pa_nil)))) pa_nil)))))), ?_⟩
      refine ⟨_, rfl, _, t, true, rfl, ty, hk, fun H1 e1 => ⟨true, rfl, iteT (cb1 (lc_lb (j := 1) ?_))⟩⟩
      refine ⟨_, rfl, a, rfl, ⟨_, Evl.ex_l e1 hS⟩, lc_map wk_list (fun i y H => ∃ z, ns[i]? = some z ∧ y = .bl (decide (0 ≤ z))) (fun _ _ e g => Evl.ex_l e g) (fun _ _ _ _ _ r => r) (Evl.ex_l e1 hS) hz' (fun i x H' Q' hi hx e' k => ?_)
        (fun D ys H' hl _ e' hD' hr' => cnt_end (fun H2 e2 => q H2 (e1.trans e2)) D ys H' hl e' hD' hr')⟩
      obtain ⟨z, hz, rfl⟩ := get_map hx
      exact ⟨_, rfl, z, rfl, k _ _ Ex.r ⟨z, hz, rfl⟩⟩
    · refine ⟨_, (pss_one (ps_ret (pe_and (C8.pe_c c_is_listed hr (by omega) rfl (pa_cons (pv 0) pa_nil)) (pe_one (pe_callB (r := rAll K) (cr_all rfl) (by rfl) T.b_all (by decide +kernel) (pa_cons (pe_lc (own := [("one", 1)]) (g := gName 1) (tt := tYes) rfl sc_is_counts.nd (pi_tup (pv 0)) (blkOk_by (own := [("one", 1)]) (N := ["thing", "one"]) (sc := defScope s_is_counts) (by decide +kernel)) (fun _ _ _ _ _ => pg_name (i := 1) sc_is_counts.nd rfl (Or.inl rfl)) (fun _ _ _ _ _ => pts_nil) (fun _ _ _ _ _ => (C8.pe_c c_is_count hr (by omega) rfl (pa_cons (pv 1) pa_nil)))) pa_nil)))))), ?_⟩
      refine ⟨_, rfl, _, t, true, rfl, ty, hk, fun H1 e1 => ⟨true, rfl, iteT (cb1 (lc_lb (j := 1) ?_))⟩⟩
      refine ⟨_, rfl, a, rfl, ⟨_, Evl.ex_t e1 hS⟩, lc_map wk_tup (fun i y H => ∃ z, ns[i]? = some z ∧ y = .bl (decide (0 ≤ z))) (fun _ _ e g => Evl.ex_t e g) (fun _ _ _ _ _ r => r) (Evl.ex_t e1 hS) hz' (fun i x H' Q' hi hx e' k => ?_)
        (fun D ys H' hl _ e' hD' hr' => cnt_end (fun H2 e2 => q H2 (e1.trans e2)) D ys H' hl e' hD' hr')⟩
      obtain ⟨z, hz, rfl⟩ := get_map hx
      exact ⟨_, rfl, z, rfl, k _ _ Ex.r ⟨z, hz, rfl⟩⟩
end
end K28
end
section
set_option Elab.async false
set_option linter.all false
set_option maxRecDepth 100000
set_option maxHeartbeats 4000000
namespace K28
open PySem PySem.Spec PyProof.Rows L2
open Evl (Ex)
/-! deep: lists and tuples to a depth, as tuples -/
def Lp (K : PySem.W.Frag) : Nat → Hp → V → PyData → Prop
  | 0, _, v, d => (∃ i, v = .int i ∧ d = .int i) ∨ ∃ s, v = .str s ∧ d = .str s
  | n + 1, H, v, d => Lp K n H v d ∨ ∃ (a : Addr) (xs : List V) (ds : List PyData), v = .ref a ∧ d = .tuple ds ∧ SqA K H a xs ∧ ds.length = xs.length ∧ xs.length ≤ 100000 ∧ ∀ (i : Nat) x, xs[i]? = some x → ∃ d', ds[i]? = some d' ∧ Lp K n H x d'
theorem Lp.ex {K : PySem.W.Frag} {H H' : Hp} (e : Ex H H') : ∀ (n : Nat) {v : V} {d : PyData}, Lp K n H v d → Lp K n H' v d
  | 0, _, _, h => h
  | n + 1, _, _, h => by
    rcases h with h | ⟨a, xs, ds, h1, h2, h3, h4, h5, h6⟩
    · exact .inl (Lp.ex e n h)
    · refine .inr ⟨a, xs, ds, h1, h2, h3.ex e, h4, h5, fun i x hx => ?_⟩
      obtain ⟨d', a, b⟩ := h6 i x hx
      exact ⟨d', a, Lp.ex e n b⟩
def spDeep (K : PySem.W.Frag) (n : Nat) : Sp := fun vs H Q _ => ∃ (v : V) (d : PyData), vs = [v] ∧ Lp K n H v d ∧ ∀ v' H', Ex H H' → Tp K H' v' d → Q v' H'
theorem tpAll_of {K : PySem.W.Frag} {H : Hp} : ∀ {ys : List V} {ds : List PyData}, ys.length = ds.length → (∀ (i : Nat) y, ys[i]? = some y → ∃ d, ds[i]? = some d ∧ Tp K H y d) → TpAll K H ys ds
  | [], [], _, _ => .nil
  | [], d :: ds, h, _ => by cases h
  | y :: ys, [], h, _ => by cases h
  | y :: ys, d :: ds, h, k => by
    obtain ⟨d', h1, h2⟩ := k 0 y rfl
    simp only [List.getElem?_cons_zero, Option.some.injEq] at h1
    subst h1
    exact .cons h2 (tpAll_of (by simpa using h) fun i y' hy => k (i + 1) y' (by simpa using hy))
section
variable {P : Program} {w : World} {K : PySem.W.Frag} {mg : Str → Option Value} {base : Heap} {CT CM : Addr}
abbrev s_deep : Stmt := top 18
theorem sc_deep : FnScope ["thing", "one"] ["thing"] (defScope s_deep) := ⟨rfl, rfl, rfl, by decide +kernel, rfl, by decide +kernel, by decide +kernel⟩
theorem deep_flat {H : Hp} {v : V} {d : PyData} {Q : VK} (h : Lp K 0 H v d) (q : ∀ v' H', Ex H H' → Tp K H' v' d → Q v' H') : ∃ T, TyX K H v (.type T) ∧ PySem.W.kitAny K (.type T) [.type "tuple", .type "list"] = some false ∧ ∀ H', Ex H H' → Q v H' := by
  rcases h with ⟨i, rfl, rfl⟩ | ⟨s, rfl, rfl⟩
  · exact ⟨"int", .base (.int i), ka_int, fun H' e => q _ _ e (.int i)⟩
  · exact ⟨"str", .base (.str s), ka_str, fun H' e => q _ _ e (.str s)⟩
theorem ok_deep0 {f : Addr} {fd : FuncData} (F : Fun K "deep" "deep" s_deep f fd) (T : Txt K mg CT CM) (c_is_listed : C8.Cal P w K mg base 1 "is_listed" (spListed K) []) : FnOk P w K mg base CX0 2 f fd ["thing"] (spDeep K 0) := by
  refine F.ok sc_deep (fun vs H Q E h => ?_) (fun cdv A outer s H vs Q E hr h => ?_)
  · obtain ⟨_, _, rfl, _⟩ := h
    rfl
  · obtain ⟨v, d, rfl, hl, q⟩ := h
    obtain ⟨t, ty, hk, q⟩ := deep_flat hl q
    refine ⟨_, (pss_cons (ps_if (pt_val (C8.pe_c c_is_listed hr (by omega) rfl (pa_cons (pv 0) pa_nil))) (pss_one ps_never) pss_nil)
      (pss_one (ps_ret (pv 0)))), ?_⟩
    exact ⟨_, rfl, _, t, false, rfl, ty, hk, fun H1 e1 => ⟨false, rfl, iteF ⟨_, rfl, q H1 e1⟩⟩⟩
theorem Lp.flat {n : Nat} : ∀ {H : Hp} {v : V} {d : PyData}, Lp K n H v d → Lp K 0 H v d ∨ ∃ (m : Nat) (a : Addr) (xs : List V) (ds : List PyData), m + 1 ≤ n ∧ v = .ref a ∧ d = .tuple ds ∧ SqA K H a xs ∧ ds.length = xs.length ∧ xs.length ≤ 100000 ∧ ∀ (i : Nat) x, xs[i]? = some x → ∃ d', ds[i]? = some d' ∧ Lp K m H x d' := by
  induction n with
  | zero => exact fun h => .inl h
  | succ n ih =>
    intro H v d h
    rcases h with h | ⟨a, xs, ds, h⟩
    · rcases ih h with h | ⟨m, a, xs, ds, hm, h⟩
      · exact .inl h
      · exact .inr ⟨m, a, xs, ds, Nat.le_succ_of_le hm, h⟩
    · exact .inr ⟨n, a, xs, ds, Nat.le_refl _, h⟩
theorem Lp.up {H : Hp} {v : V} {d : PyData} {m n : Nat} (h : Lp K m H v d) (e : m ≤ n) : Lp K n H v d := by
  induction e with
  | refl => exact h
  | step _ ih => exact .inl ih
theorem ok_deepS (n : Nat) {f : Addr} {fd : FuncData} (F : Fun K "deep" "deep" s_deep f fd) (T : Txt K mg CT CM) (c_is_listed : C8.Cal P w K mg base 1 "is_listed" (spListed K) []) (c_deep : C8.Cal P w K mg base (n + 2) "deep" (spDeep K n) []) : FnOk P w K mg base CX0 (n + 3) f fd ["thing"] (spDeep K (n + 1)) := by
  refine F.ok sc_deep (fun vs H Q E h => ?_) (fun cdv A outer s H vs Q E hr h => ?_)
  · obtain ⟨_, _, rfl, _⟩ := h
    rfl
  · obtain ⟨v, d, rfl, hl, q⟩ := h
    rcases hl.flat with hl | ⟨m, a, xs, ds, hm, rfl, rfl, hS, hlen, hz, hi⟩
    · obtain ⟨t, ty, hk, q⟩ := deep_flat hl q
      refine ⟨_, (pss_cons (ps_if (pt_val (C8.pe_c c_is_listed hr (by omega) rfl (pa_cons (pv 0) pa_nil))) (pss_one ps_never) pss_nil)
      (pss_one (ps_ret (pv 0)))), ?_⟩
      exact ⟨_, rfl, _, t, false, rfl, ty, hk, fun H1 e1 => ⟨false, rfl, iteF ⟨_, rfl, q H1 e1⟩⟩⟩
    · obtain ⟨t, ty, hk⟩ := hS.ty
      rcases hS with hS | hS
      · refine ⟨_, (pss_cons (ps_if (pt_val (C8.pe_c c_is_listed hr (by omega) rfl (pa_cons (pv 0) pa_nil))) (pss_one (ps_ret (pe_callTy (r := rTupOf K) call_tuple_of (by rfl) T.b_tuple (by decide +kernel) (pa_cons (pe_lc (own := [("one", 1)]) (g := gName 1) (tt := tYes) rfl sc_deep.nd (pi_list (pv 0)) (blkOk_by (own := [("one", 1)]) (N := ["thing", "one"]) (sc := defScope s_deep) (by decide +kernel)) (fun _ _ _ _ _ => pg_name (i := 1) sc_deep.nd rfl (Or.inl rfl)) (fun _ _ _ _ _ => pts_nil) (fun _ _ _ _ _ => (C8.pe_c c_deep hr (by omega) rfl (pa_cons (pv 1) pa_nil)))) pa_nil)))) pss_nil)
      (pss_one (ps_ret (pv 0)))), ?_⟩
        refine ⟨_, rfl, _, t, true, rfl, ty, hk, fun H1 e1 => ⟨true, rfl, iteT (cb1 (lc_lb (j := 1) ?_))⟩⟩
        refine ⟨_, rfl, a, rfl, ⟨_, Evl.ex_l e1 hS⟩, lc_map wk_list (fun i y H => ∃ d, ds[i]? = some d ∧ Tp K H y d) (fun _ _ e g => Evl.ex_l e g) (fun _ _ _ _ e ⟨d, h1, h2⟩ => ⟨d, h1, h2.kp e⟩) (Evl.ex_l e1 hS) (by omega) (fun i x H' Q' hlt hx e' k => ?_)
          (fun D ys H' hl _ e' hD' hr' => ⟨D, ys, rfl, .inl ⟨sq_l hD', fun p hp => q _ _ ((e1.trans e').trans (Evl.Ex.new hp)) (.tup (sq_t upd_same) ((tpAll_of (by omega) hr').kp (.new hp)))⟩⟩)⟩
        obtain ⟨d', h1, h2⟩ := hi i x hx
        exact ⟨_, rfl, x, d', rfl, Lp.ex (e1.trans e') _ (Lp.up h2 (by omega)), fun v' H2 e2 h3 => k _ _ e2 ⟨d', h1, h3⟩⟩
      · refine ⟨_, (pss_cons (ps_if (pt_val (C8.pe_c c_is_listed hr (by omega) rfl (pa_cons (pv 0) pa_nil))) (pss_one (ps_ret (pe_callTy (r := rTupOf K) call_tuple_of (by rfl) T.b_tuple (by decide +kernel) (pa_cons (pe_lc (own := [("one", 1)]) (g := gName 1) (tt := tYes) rfl sc_deep.nd (pi_tup (pv 0)) (blkOk_by (own := [("one", 1)]) (N := ["thing", "one"]) (sc := defScope s_deep) (by decide +kernel)) (fun _ _ _ _ _ => pg_name (i := 1) sc_deep.nd rfl (Or.inl rfl)) (fun _ _ _ _ _ => pts_nil) (fun _ _ _ _ _ => (C8.pe_c c_deep hr (by omega) rfl (pa_cons (pv 1) pa_nil)))) pa_nil)))) pss_nil)
      (pss_one (ps_ret (pv 0)))), ?_⟩
        refine ⟨_, rfl, _, t, true, rfl, ty, hk, fun H1 e1 => ⟨true, rfl, iteT (cb1 (lc_lb (j := 1) ?_))⟩⟩
        refine ⟨_, rfl, a, rfl, ⟨_, Evl.ex_t e1 hS⟩, lc_map wk_tup (fun i y H => ∃ d, ds[i]? = some d ∧ Tp K H y d) (fun _ _ e g => Evl.ex_t e g) (fun _ _ _ _ e ⟨d, h1, h2⟩ => ⟨d, h1, h2.kp e⟩) (Evl.ex_t e1 hS) (by omega) (fun i x H' Q' hlt hx e' k => ?_)
          (fun D ys H' hl _ e' hD' hr' => ⟨D, ys, rfl, .inl ⟨sq_l hD', fun p hp => q _ _ ((e1.trans e').trans (Evl.Ex.new hp)) (.tup (sq_t upd_same) ((tpAll_of (by omega) hr').kp (.new hp)))⟩⟩)⟩
        obtain ⟨d', h1, h2⟩ := hi i x hx
        exact ⟨_, rfl, x, d', rfl, Lp.ex (e1.trans e') _ (Lp.up h2 (by omega)), fun v' H2 e2 h3 => k _ _ e2 ⟨d', h1, h3⟩⟩
/-- deep, to any depth -/
theorem c_deep {f : Addr} {fd : FuncData} (F : Fun K "deep" "deep" s_deep f fd) (T : Txt K mg CT CM) (c_is_listed : C8.Cal P w K mg base 1 "is_listed" (spListed K) []) (m : mg "deep" = some (.ref f)) (b : Binds K fd ["thing"] []) : ∀ n, C8.Cal P w K mg base (n + 2) "deep" (spDeep K n) []
  | 0 => ⟨f, fd, _, [], ok_deep0 F T c_is_listed, m, F.kp, b, .nil⟩
  | n + 1 => ⟨f, fd, _, [], ok_deepS n F T c_is_listed (c_deep F T c_is_listed m b n), m, F.kp, b, .nil⟩
/-! is_rising -/
def rising (ns : List Int) : Bool := (List.range (ns.length - 1)).all fun i => decide (ns.getD i 0 ≤ ns.getD (i + 1) 0)
def spRising (K : PySem.W.Frag) : Sp := fun vs H Q _ => ∃ (a : Addr) (ns : List Int), vs = [.ref a] ∧ SqA K H a (ns.map V.int) ∧ ns.length ≤ 100000 ∧ ∀ H', Ex H H' → Q (.bl (rising ns)) H'
theorem SqA.len {H : Hp} {a : Addr} {xs : List V} (h : SqA K H a xs) : SqL K H a xs ∨ SqT K H a xs := h
theorem atI_int {ns : List Int} {i : Nat} {z : Int} (hz : z = (i : Int)) (h : i < ns.length) : atI (ns.map V.int) z = some (.int (ns.getD i 0)) := by
  subst hz
  refine atI_nat ?_
  rw [List.getElem?_map, List.getElem?_eq_getElem h, List.getD_eq_getElem?_getD, List.getElem?_eq_getElem h]
  rfl
theorem rising_end {H1 : Hp} {Q : VK} {ns : List Int} (q : ∀ H', Ex H1 H' → Q (.bl (rising ns)) H') (D : Addr) (ys : List V) (H' : Hp) (hl : ys.length = ((ns.length : Int) - 1).toNat) (e : Ex H1 H') (hD : H' D = some (.lst ys))
    (hr : ∀ (i : Nat) y, ys[i]? = some y → y = .bl (decide (ns.getD i 0 ≤ ns.getD (i + 1) 0))) : rAll K [.ref D] H' Q := by
  have hn : ((ns.length : Int) - 1).toNat = ns.length - 1 := by omega
  have ey : ys = ((List.range (ns.length - 1)).map fun i => decide (ns.getD i 0 ≤ ns.getD (i + 1) 0)).map V.bl := by
    rw [List.map_map]
    refine map_of (f := V.bl ∘ fun i => decide (ns.getD i 0 ≤ ns.getD (i + 1) 0)) (by rw [List.length_range]; omega) fun i y h => ⟨i, ?_, hr i y h⟩
    have := (List.getElem?_eq_some_iff.mp h).1
    exact List.getElem?_range (by omega)
  refine ⟨D, _, rfl, sq_l (by rw [← ey]; exact hD), ?_⟩
  have : ((List.range (ns.length - 1)).map fun i => decide (ns.getD i 0 ≤ ns.getD (i + 1) 0)).all id = rising ns := by simp [rising, List.all_map, Function.comp_def]
  rw [this]
  exact q H' e
abbrev s_is_rising : Stmt := top 39
theorem sc_is_rising : FnScope ["counts", "place"] ["counts"] (defScope s_is_rising) := ⟨rfl, rfl, rfl, by decide +kernel, rfl, by decide +kernel, by decide +kernel⟩
theorem ok_is_rising {f : Addr} {fd : FuncData} (F : Fun K "is_rising" "is_rising" s_is_rising f fd) (T : Txt K mg CT CM) : FnOk P w K mg base CX0 1 f fd ["counts"] (spRising K) := by
  refine F.ok sc_is_rising (fun vs H Q E h => ?_) (fun cdv A outer s H vs Q E hr h => ?_)
  · obtain ⟨_, _, rfl, _⟩ := h
    rfl
  · obtain ⟨a, ns, rfl, hS, hz, q⟩ := h
    have hA := hS
    have hml : (ns.map V.int).length = ns.length := List.length_map _
    rcases hS with hS | hS
    · refine ⟨_, (pss_one (ps_ret (pe_callB (r := rAll K) (cr_all rfl) (by rfl) T.b_all (by decide +kernel) (pa_cons (pe_lc (own := [("place", 1)]) (g := gName 1) (tt := tYes) rfl sc_is_rising.nd (pi_range1 rfl T.b_range (pa_cons (pe_op op_sub (pe_callB (r := Evl.rLenS K) call_len_seq (by rfl) T.b_len PySem.boot_len (pa_cons (pv 0) pa_nil)) pe_int) pa_nil)) (blkOk_by (own := [("place", 1)]) (N := ["counts", "place"]) (sc := defScope s_is_rising) (by decide +kernel)) (fun _ _ _ _ _ => pg_name (i := 1) sc_is_rising.nd rfl (Or.inl rfl)) (fun _ _ _ _ _ => pts_nil) (fun _ _ _ _ _ => (pe_cmpR op_le (pe_ix (r := rIxL K) ix_list (pv 0) (pv 1) (fun _ _ => rfl)) (pe_ix (r := rIxL K) ix_list (pv 0) (pe_op op_add (pv 1) pe_int) (fun _ _ => rfl)) (nomark _)))) pa_nil)))), ?_⟩
      refine cb1 (lc_lb (j := 1) ?_)
      refine ⟨_, rfl, _, _, rfl, hA, _, _, rfl, rfl, _, rfl, ?_⟩
      rw [hml]
      refine ⟨by omega, by omega, lc_map wk_range (fun i y H => y = .bl (decide (ns.getD i 0 ≤ ns.getD (i + 1) 0))) (fun _ _ _ _ => True.intro) (fun _ _ _ _ _ r => r) True.intro (by omega) (fun i x H' Q' hlt hx e' k => ?_)
        (fun D ys H' hl _ e' hD' hr' => rising_end q D ys H' hl e' hD' hr')⟩
      subst hx
      exact ⟨_, rfl, _, rfl, a, _, _, _, rfl, rfl, Evl.ex_l e' hS, atI_int (i := i) (by omega) (by omega), _, rfl, _, rfl, _, _, rfl, rfl, a, _, _, _, rfl, rfl, Evl.ex_l e' hS, atI_int (i := i + 1) (by omega) (by omega), _, _, rfl, rfl, k _ _ Ex.r rfl⟩
    · refine ⟨_, (pss_one (ps_ret (pe_callB (r := rAll K) (cr_all rfl) (by rfl) T.b_all (by decide +kernel) (pa_cons (pe_lc (own := [("place", 1)]) (g := gName 1) (tt := tYes) rfl sc_is_rising.nd (pi_range1 rfl T.b_range (pa_cons (pe_op op_sub (pe_callB (r := Evl.rLenS K) call_len_seq (by rfl) T.b_len PySem.boot_len (pa_cons (pv 0) pa_nil)) pe_int) pa_nil)) (blkOk_by (own := [("place", 1)]) (N := ["counts", "place"]) (sc := defScope s_is_rising) (by decide +kernel)) (fun _ _ _ _ _ => pg_name (i := 1) sc_is_rising.nd rfl (Or.inl rfl)) (fun _ _ _ _ _ => pts_nil) (fun _ _ _ _ _ => (pe_cmpR op_le (pe_ix (r := rIxT K) ix_tup (pv 0) (pv 1) (fun _ _ => rfl)) (pe_ix (r := rIxT K) ix_tup (pv 0) (pe_op op_add (pv 1) pe_int) (fun _ _ => rfl)) (nomark _)))) pa_nil)))), ?_⟩
      refine cb1 (lc_lb (j := 1) ?_)
      refine ⟨_, rfl, _, _, rfl, hA, _, _, rfl, rfl, _, rfl, ?_⟩
      rw [hml]
      refine ⟨by omega, by omega, lc_map wk_range (fun i y H => y = .bl (decide (ns.getD i 0 ≤ ns.getD (i + 1) 0))) (fun _ _ _ _ => True.intro) (fun _ _ _ _ _ r => r) True.intro (by omega) (fun i x H' Q' hlt hx e' k => ?_)
        (fun D ys H' hl _ e' hD' hr' => rising_end q D ys H' hl e' hD' hr')⟩
      subst hx
      exact ⟨_, rfl, _, rfl, a, _, _, _, rfl, rfl, Evl.ex_t e' hS, atI_int (i := i) (by omega) (by omega), _, rfl, _, rfl, _, _, rfl, rfl, a, _, _, _, rfl, rfl, Evl.ex_t e' hS, atI_int (i := i + 1) (by omega) (by omega), _, _, rfl, rfl, k _ _ Ex.r rfl⟩
end
end K28
end
section
set_option Elab.async false
set_option linter.all false
set_option maxRecDepth 100000
set_option maxHeartbeats 4000000
namespace K28
open PySem PySem.Spec PyProof.Rows L2
open Evl (Ex)
/-! slices -/
theorem cutV_take {xs : List V} {k : Nat} (hk : k ≤ xs.length) : cutV xs none (some (k : Int)) = xs.take k := by
  unfold cutV
  rw [HT.sIx_none, HT.sIx_nat, List.drop_zero, Nat.min_eq_left hk, Nat.sub_zero]
theorem rSlA_take {K : PySem.W.Frag} {H : Hp} {a : Addr} {xs : List V} {k : Nat} {z : Int} {Q : VK} (h : SqT K H a xs) (hk : k ≤ xs.length) (hz : z = (k : Int)) (q : ∀ b H', Ex H H' → SqT K H' b (xs.take k) → Q (.ref b) H') : rSlA K (.ref a) none (some z) H Q := by
  subst hz
  refine ⟨a, xs, rfl, h, fun ⟨_, e⟩ => ?_, fun _ p hp => ?_⟩
  · rw [HT.sIx_nat, Nat.min_eq_left hk] at e
    exact q a H Ex.r (by rw [e, List.take_length]; exact h)
  · refine q p _ (Evl.Ex.new hp) (sq_t ?_)
    rw [← cutV_take hk]
    exact upd_same
theorem take_ints {ns : List Int} {k : Nat} : (ns.map V.int).take k = (ns.take k).map V.int := (List.map_take).symm
def SzR (x : List Int × List Int × Int) : Prop := x.1.length ≤ 100000 ∧ x.2.1.length ≤ 100000 ∧ 0 ≤ x.2.2 ∧ x.2.2 < 2 ^ 60
def valV (x : List Int × List Int × Int) (n : Nat) : V := if x.2.1 = [] ∧ x.1.length ≤ n then .non else .int (val x.1 x.2.1 x.2.2 n)
theorem valV_int {x : List Int × List Int × Int} {n : Nat} (h : x.2.1 ≠ [] ∨ n < x.1.length) : valV x n = .int (val x.1 x.2.1 x.2.2 n) := by
  unfold valV
  rw [if_neg fun ⟨a, b⟩ => h.elim (fun z => z a) fun z => by omega]
section
variable {P : Program} {w : World} {K : PySem.W.Frag} {mg : Str → Option Value} {base : Heap} {CT CM : Addr}
/-! common_divisor -/
def spGcd : Sp := fun vs H Q _ => ∃ a b : Nat, vs = [.int a, .int b] ∧ Q (.int (Nat.gcd a b : Nat)) H
abbrev s_common_divisor : Stmt := top 22
theorem sc_common_divisor : FnScope ["one", "other"] ["one", "other"] (defScope s_common_divisor) := ⟨rfl, rfl, rfl, by decide +kernel, rfl, by decide +kernel, by decide +kernel⟩
theorem ok_common_divisor {f : Addr} {fd : FuncData} (F : Fun K "common_divisor" "common_divisor" s_common_divisor f fd) (T : Txt K mg CT CM) : FnOk P w K mg base CX0 1 f fd ["one", "other"] spGcd := by
  refine F.ok sc_common_divisor (fun vs H Q E h => ?_) (fun cdv A outer s H vs Q E hr h => ?_)
  · obtain ⟨_, _, rfl, _⟩ := h
    rfl
  · obtain ⟨a, b, rfl, q⟩ := h
    refine ⟨_, (pss_cons (ps_while PassesOwn.never (pt_cmpR op_gt (pv 1) pe_int (nomark _)) (pss_one (ps_par (i := 0) (j := 1) (by rfl) sc_common_divisor.nd rfl rfl (by decide) rfl rfl (pa_cons (pv 1) (pa_cons (pe_op op_mod (pv 0) (pv 1)) pa_nil)) (by rfl))))
      (pss_one (ps_ret (pv 0)))), ?_⟩
    refine ⟨fun m σ' H' => ∃ a' b' : Nat, σ' = [some (.int a'), some (.int b')] ∧ H' = H ∧ Nat.gcd a' b' = Nat.gcd a b ∧ b' = m, ⟨b, a, b, rfl, rfl, rfl, rfl⟩, ?_⟩
    rintro m σ' H' ⟨a', b', rfl, rfl, hg, rfl⟩
    refine ⟨_, rfl, _, _, rfl, rfl, _, rfl, ite2 (fun h => ?_) (fun h => ?_)⟩
    · have hb : 0 < b' := by have := of_decide_eq_true h; omega
      refine ⟨_, fun _ _ n => n, ?_⟩
      refine ⟨_, rfl, _, rfl, _, rfl, _, _, rfl, rfl, (by show (0 : Int) < b'; omega), _, _, rfl, ?_⟩
      exact ⟨a' % b', Nat.mod_lt _ hb, b', a' % b', rfl, rfl, by rw [← hg, Nat.gcd_comm b', ← Nat.gcd_rec, Nat.gcd_comm], rfl⟩
    · have hb : b' = 0 := by
        have : ¬ (0 : Int) < b' := fun z => h (decide_eq_true z)
        omega
      refine ⟨_, rfl, ?_⟩
      subst hb
      rw [Nat.gcd_zero_right] at hg
      rw [hg]
      exact q
/-! common_multiple -/
def spLcm : Sp := fun vs H Q _ => ∃ a b : Nat, vs = [.int a, .int b] ∧ 0 < a ∧ a ≤ 100000 ∧ 0 < b ∧ Q (.int (Nat.lcm a b : Nat)) H
abbrev s_common_multiple : Stmt := top 23
theorem sc_common_multiple : FnScope ["one", "other"] ["one", "other"] (defScope s_common_multiple) := ⟨rfl, rfl, rfl, by decide +kernel, rfl, by decide +kernel, by decide +kernel⟩
theorem ok_common_multiple {f : Addr} {fd : FuncData} (F : Fun K "common_multiple" "common_multiple" s_common_multiple f fd) (T : Txt K mg CT CM) (c_common_divisor : C8.Cal P w K mg base 1 "common_divisor" spGcd []) : FnOk P w K mg base CX0 2 f fd ["one", "other"] spLcm := by
  refine F.ok sc_common_multiple (fun vs H Q E h => ?_) (fun cdv A outer s H vs Q E hr h => ?_)
  · obtain ⟨_, _, rfl, _⟩ := h
    rfl
  · obtain ⟨a, b, rfl, ha, ha2, hb, q⟩ := h
    have hg : Nat.gcd a b ≤ a := Nat.gcd_le_left b ha
    have hg0 : 0 < Nat.gcd a b := Nat.gcd_pos_of_pos_left b ha
    have hq : a / Nat.gcd a b ≤ a := Nat.div_le_self _ _
    refine ⟨_, (pss_one (ps_ret (pe_op op_mul (pe_op op_fdiv (pv 0) (C8.pe_c c_common_divisor hr (by omega) rfl (pa_cons (pv 0) (pa_cons (pv 1) pa_nil)))) (pv 1)))), ?_⟩
    refine ⟨_, rfl, _, rfl, _, rfl, a, b, rfl, _, _, rfl, rfl, ⟨by omega, by omega⟩, _, rfl, _, _, rfl, rfl, .inl ?_, ?_⟩
    · show -(2 ^ 64) < ((a / Nat.gcd a b : Nat) : Int) ∧ ((a / Nat.gcd a b : Nat) : Int) < 2 ^ 64
      generalize a / Nat.gcd a b = k at hq ⊢
      omega
    · have e : a / Nat.gcd a b * b = Nat.lcm a b := by
        unfold Nat.lcm
        exact Nat.div_mul_right_comm (Nat.gcd_dvd_left a b) b
      show Q (.int ((a / Nat.gcd a b * b : Nat) : Int)) _
      rw [e]
      exact q
/-! value_at -/
def spValue (K : PySem.W.Frag) : Sp := fun vs H Q _ => ∃ (v : V) (x : List Int × List Int × Int) (n : Nat), vs = [v, .int ((n : Int) + 1)] ∧ Tp K H v (rawD x) ∧ SzR x ∧ Q (valV x n) H
abbrev s_value_at : Stmt := top 26
theorem sc_value_at : FnScope ["raw", "place", "head", "loop", "rise", "rest"] ["raw", "place"] (defScope s_value_at) := ⟨rfl, rfl, rfl, by decide +kernel, rfl, by decide +kernel, by decide +kernel⟩
theorem ok_value_at {f : Addr} {fd : FuncData} (F : Fun K "value_at" "value_at" s_value_at f fd) (T : Txt K mg CT CM) : FnOk P w K mg base CX0 1 f fd ["raw", "place"] (spValue K) := by
  refine F.ok sc_value_at (fun vs H Q E h => ?_) (fun cdv A outer s H vs Q E hr h => ?_)
  · obtain ⟨_, _, _, rfl, _⟩ := h
    rfl
  · obtain ⟨v, ⟨h, l, r⟩, n, rfl, hT, hz, q⟩ := h
    obtain ⟨a, vh, vl, rfl, hq, hh, hl⟩ := hT.raw
    obtain ⟨ah, rfl, hH⟩ := hh.ints
    obtain ⟨al, rfl, hL⟩ := hl.ints
    dsimp only at hq hH hL
    have z1 : h.length ≤ 100000 := hz.1
    have z2 : l.length ≤ 100000 := hz.2.1
    have z3 : 0 ≤ r ∧ r < 2 ^ 60 := hz.2.2
    have mh : (h.map V.int).length = h.length := List.length_map _
    have ml : (l.map V.int).length = l.length := List.length_map _
    refine ⟨_, (pss_cons (ps_asg (pv 0) (pg_tup rfl (pgs_cons (pg_name (i := 2) sc_value_at.nd rfl (Or.inl rfl)) (pgs_cons (pg_name (i := 3) sc_value_at.nd rfl (Or.inl rfl)) (pgs_cons (pg_name (i := 4) sc_value_at.nd rfl (Or.inl rfl)) pgs_nil)))))
      (pss_cons (ps_if (pt_cmpR op_isN (pv 1) pe_non (nomark _)) (pss_one ps_never) pss_nil)
      (pss_cons (ps_if (pt_cmpR op_eq (pv 1) pe_int (nomark _)) (pss_one (ps_ret pe_int)) pss_nil)
      (pss_cons (ps_if (pt_cmpR op_le (pv 1) (pe_callB (r := Evl.rLenS K) call_len_seq (by rfl) T.b_len PySem.boot_len (pa_cons (pv 2) pa_nil)) (nomark _)) (pss_one (ps_ret (pe_ix (r := rIxT K) ix_tup (pv 2) (pe_op op_sub (pv 1) pe_int) (fun _ _ => rfl)))) pss_nil)
      (pss_cons (ps_if (pt_cmpR op_eq (pe_callB (r := Evl.rLenS K) call_len_seq (by rfl) T.b_len PySem.boot_len (pa_cons (pv 3) pa_nil)) pe_int (nomark _)) (pss_one (ps_ret pe_non)) pss_nil)
      (pss_cons (ps_set (i := 5) sc_value_at.nd rfl (Or.inl rfl) (pe_op op_sub (pe_op op_sub (pv 1) (pe_callB (r := Evl.rLenS K) call_len_seq (by rfl) T.b_len PySem.boot_len (pa_cons (pv 2) pa_nil))) pe_int))
      (pss_one (ps_ret (pe_op op_add (pe_ix (r := rIxT K) ix_tup (pv 3) (pe_op op_mod (pv 5) (pe_callB (r := Evl.rLenS K) call_len_seq (by rfl) T.b_len PySem.boot_len (pa_cons (pv 3) pa_nil))) (fun _ _ => rfl)) (pe_op op_mul (pv 4) (pe_op op_fdiv (pv 5) (pe_callB (r := Evl.rLenS K) call_len_seq (by rfl) T.b_len PySem.boot_len (pa_cons (pv 3) pa_nil))))))))))))), ?_⟩
    refine ⟨_, rfl, a, _, rfl, hq, rfl, _, _, rfl, _, _, rfl, _, _, rfl, rfl, ?_⟩
    refine ⟨_, rfl, rfl, _, rfl, if_f (by simp) ?_⟩
    refine ⟨_, rfl, rfl, _, rfl, if_f (by rw [dInt]; exact decide_eq_false (by omega)) ?_⟩
    refine ⟨_, rfl, _, rfl, ah, _, rfl, .inr hH, _, _, rfl, rfl, _, rfl, ite2 (fun c => ?_) (fun c => ?_)⟩
    · have c1 : n < h.length := by have := of_decide_eq_true c; rw [mh] at this; omega
      refine ⟨_, rfl, _, rfl, _, _, rfl, rfl, ah, _, _, _, rfl, rfl, hH, atI_int (i := n) (by omega) c1, ?_⟩
      have e : valV (h, l, r) n = .int (h.getD n 0) := by
        rw [valV_int (.inr c1)]
        exact congrArg V.int (val_lt c1)
      rw [e] at q
      exact q
    · have c1 : h.length ≤ n := by
        have : ¬ ((n : Int) + 1 ≤ ((h.map V.int).length : Int)) := fun z => c (decide_eq_true z)
        rw [mh] at this
        omega
      obtain ⟨t, rfl⟩ := Nat.exists_eq_add_of_le c1
      refine ⟨_, rfl, al, _, rfl, .inr hL, rfl, _, rfl, ite2 (fun c => ?_) (fun c => ?_)⟩
      · have e0 : l = [] := by
          have := of_decide_eq_true c
          rw [ml] at this
          have := V.int.inj this
          exact List.eq_nil_of_length_eq_zero (by omega)
        subst e0
        have e : valV (h, [], r) (h.length + t) = .non := by
          unfold valV
          rw [if_pos ⟨rfl, c1⟩]
        rw [e] at q
        exact q
      · have l0 : 0 < l.length := by
          rcases Nat.eq_zero_or_pos l.length with z | z
          · exact absurd (by rw [ml, z]; simp) c
          · exact z
        have en : ((h.length + t : Nat) : Int) + 1 - ((h.map V.int).length : Int) - 1 = (t : Int) := by rw [mh]; omega
        have hm : t % l.length < l.length := Nat.mod_lt _ l0
        refine ⟨_, rfl, _, rfl, ah, _, rfl, .inr hH, _, _, rfl, rfl, _, _, rfl, rfl, ?_⟩
        refine ⟨_, rfl, _, rfl, _, rfl, al, _, rfl, .inr hL, _, _, rfl, rfl, (by show (0 : Int) < ((l.map V.int).length : Int); rw [ml]; omega), al, _, _, _, rfl, rfl, hL, atI_int (i := t % l.length) ?_ hm, ?_⟩
        · rw [en, ml]
          exact (Int.natCast_emod _ _).symm
        · refine ⟨_, rfl, _, rfl, _, rfl, al, _, rfl, .inr hL, _, _, rfl, rfl, ⟨by rw [ml]; omega, by rw [ml]; omega⟩, _, _, rfl, rfl, .inl ⟨by omega, by omega⟩, _, _, rfl, rfl, ?_⟩
          have e : valV (h, l, r) (h.length + t) = .int (l.getD (t % l.length) 0 + r * ((((h.length + t : Nat) : Int) + 1 - ((h.map V.int).length : Int) - 1) / ((l.map V.int).length : Int))) := by
            rw [valV_int (.inl fun (z : l = []) => by rw [z] at l0; simp at l0), en, ml]
            exact congrArg V.int (val_ge t)
          rw [e] at q
          exact q
end
end K28
end
section
set_option Elab.async false
set_option linter.all false
set_option maxRecDepth 100000
set_option maxHeartbeats 4000000
namespace K28
open PySem PySem.Spec PyProof.Rows L2
open Evl (Ex)
/-- the loop goes on in the same way by m: what short_loop looks at -/
def goes (l : List Int) (m : Nat) (s : Int) : Bool := (List.range (l.length - m)).all fun i => decide (l.getD (i + m) 0 = l.getD i 0 + s)
theorem goes_iff {l : List Int} {m : Nat} {s : Int} : goes l m s = true ↔ ∀ i, i + m < l.length → l.getD (i + m) 0 = l.getD i 0 + s := by
  unfold goes
  rw [List.all_eq_true]
  constructor
  · intro h i hi
    exact of_decide_eq_true (h i (List.mem_range.mpr (by omega)))
  · intro h i hi
    exact decide_eq_true (h i (by have := List.mem_range.mp hi; omega))
theorem goes_end {K : PySem.W.Frag} {H1 : Hp} {Q : VK} {l : List Int} {m : Nat} {s : Int} (hm : m < l.length) (q : ∀ H', Ex H1 H' → Q (.bl (goes l m s)) H') (D : Addr) (ys : List V) (H' : Hp) (hl : ys.length = ((l.length : Int) - (m : Int)).toNat) (e : Ex H1 H') (hD : H' D = some (.lst ys))
    (hr : ∀ (i : Nat) y, ys[i]? = some y → y = .bl (decide (l.getD (i + m) 0 = l.getD i 0 + s))) : rAll K [.ref D] H' Q := by
  have ey : ys = ((List.range (l.length - m)).map fun i => decide (l.getD (i + m) 0 = l.getD i 0 + s)).map V.bl := by
    rw [List.map_map]
    refine map_of (f := V.bl ∘ fun i => decide (l.getD (i + m) 0 = l.getD i 0 + s)) (by rw [List.length_range]; omega) fun i y h => ⟨i, ?_, hr i y h⟩
    have := (List.getElem?_eq_some_iff.mp h).1
    exact List.getElem?_range (by omega)
  refine ⟨D, _, rfl, sq_l (by rw [← ey]; exact hD), ?_⟩
  have : ((List.range (l.length - m)).map fun i => decide (l.getD (i + m) 0 = l.getD i 0 + s)).all id = goes l m s := by simp [goes, List.all_map, Function.comp_def]
  rw [this]
  exact q H' e
section
variable {P : Program} {w : World} {K : PySem.W.Frag} {mg : Str → Option Value} {base : Heap} {CT CM : Addr}
/-! short_loop -/
def spShort (K : PySem.W.Frag) : Sp := fun vs H Q _ => ∃ (v : V) (l : List Int) (r : Int), vs = [v, .int r] ∧ Tp K H v (intsD l) ∧ 0 < l.length ∧ l.length ≤ 100000 ∧
  ∀ (m : Nat) (a : Addr) (vl : V) (H' : Hp), Ex H H' → 0 < m → m ≤ l.length → Sc l r m → (∀ k, 0 < k → k < m → ¬ Sc l r k) → H' a = some (.tup [vl, .int (r / ((l.length / m : Nat) : Int))]) → Tp K H' vl (intsD (l.take m)) → Q (.ref a) H'
abbrev s_short_loop : Stmt := top 27
theorem sc_short_loop : FnScope ["loop", "rise", "many", "step", "place"] ["loop", "rise"] (defScope s_short_loop) := ⟨rfl, rfl, rfl, by decide +kernel, rfl, by decide +kernel, by decide +kernel⟩
theorem ok_short_loop {f : Addr} {fd : FuncData} (F : Fun K "short_loop" "short_loop" s_short_loop f fd) (T : Txt K mg CT CM) : FnOk P w K mg base CX0 1 f fd ["loop", "rise"] (spShort K) := by
  refine F.ok sc_short_loop (fun vs H Q E h => ?_) (fun cdv A outer s H vs Q E hr h => ?_)
  · obtain ⟨_, _, _, rfl, _⟩ := h
    rfl
  · obtain ⟨v, l, r, rfl, hT, l0, hz, q⟩ := h
    obtain ⟨al, rfl, hL⟩ := hT.ints
    have ml : (l.map V.int).length = l.length := List.length_map _
    refine ⟨_, (pss_cons (ps_for PassesOwn.never rfl (pi_range2 rfl T.b_range (pa_cons pe_int (pa_cons (pe_callB (r := Evl.rLenS K) call_len_seq (by rfl) T.b_len PySem.boot_len (pa_cons (pv 0) pa_nil)) pa_nil))) (pg_name (i := 2) sc_short_loop.nd rfl (Or.inr rfl)) (pss_one (ps_if (PW.pt (pw_and (pt_cmpR op_eq (pe_op op_mod (pe_callB (r := Evl.rLenS K) call_len_seq (by rfl) T.b_len PySem.boot_len (pa_cons (pv 0) pa_nil)) (pv 2)) pe_int (nomark _)) (pw_and1 (pt_cmpR op_eq (pe_op op_mod (pv 1) (pe_op op_fdiv (pe_callB (r := Evl.rLenS K) call_len_seq (by rfl) T.b_len PySem.boot_len (pa_cons (pv 0) pa_nil)) (pv 2))) pe_int (nomark _))))) (pss_cons (ps_set (i := 3) sc_short_loop.nd rfl (Or.inr rfl) (pe_op op_fdiv (pv 1) (pe_op op_fdiv (pe_callB (r := Evl.rLenS K) call_len_seq (by rfl) T.b_len PySem.boot_len (pa_cons (pv 0) pa_nil)) (pv 2))))
      (pss_one (ps_if (pt_val (pe_callB (r := rAll K) (cr_all rfl) (by rfl) T.b_all (by decide +kernel) (pa_cons (pe_lc (own := [("place", 4)]) (g := gName 4) (tt := tYes) rfl sc_short_loop.nd (pi_range1 rfl T.b_range (pa_cons (pe_op op_sub (pe_callB (r := Evl.rLenS K) call_len_seq (by rfl) T.b_len PySem.boot_len (pa_cons (pv 0) pa_nil)) (pv 2)) pa_nil)) (blkOk_by (own := [("place", 4)]) (N := ["loop", "rise", "many", "step", "place"]) (sc := defScope s_short_loop) (by decide +kernel)) (fun _ _ _ _ _ => pg_name (i := 4) sc_short_loop.nd rfl (Or.inl rfl)) (fun _ _ _ _ _ => pts_nil) (fun _ _ _ _ _ => (pe_cmpR op_eq (pe_ix (r := rIxT K) ix_tup (pv 0) (pe_op op_add (pv 4) (pv 2)) (fun _ _ => rfl)) (pe_op op_add (pe_ix (r := rIxT K) ix_tup (pv 0) (pv 4) (fun _ _ => rfl)) (pv 3)) (nomark _)))) pa_nil))) (pss_one (ps_ret (pe_tup (pa_cons (pe_slice (r := rSlA K) sl_tupA (pv 0) po_none (po_some (pv 2))) (pa_cons (pv 3) pa_nil))))) pss_nil))) pss_nil)))
      (pss_one (ps_ret (pe_tup (pa_cons (pv 0) (pa_cons (pv 1) pa_nil)))))), ?_⟩
    refine sq1 (fr_fb ?_)
    refine ⟨_, rfl, al, _, rfl, .inr hL, 1, _, rfl, ⟨by omega, by omega, by rw [ml]; omega, by rw [ml]; omega⟩, fb_go wk_range (fun i σ' H' => ∃ mo so : Option V, σ' = [some (.ref al), some (.int r), mo, so, none] ∧ Ex H H' ∧ ∀ k, 0 < k → k < 1 + i → ¬ Sc l r k)
      ⟨none, none, rfl, Ex.r, fun k k0 k1 => by omega⟩ (fun _ _ _ _ _ => True.intro) ?_ ?_⟩
    · rintro i x σ' H1 hi rfl ⟨mo, so, rfl, e1, hno⟩
      have hi' : i + 1 < l.length := by rw [ml] at hi; omega
      have hL1 := Evl.ex_t e1 hL
      have em : (1 : Int) + (i : Int) = ((i + 1 : Nat) : Int) := by omega
      rw [em]
      have m0 : 0 < i + 1 := Nat.succ_pos i
      generalize hm : i + 1 = m at *
      have hdv : 0 < l.length / m := Nat.div_pos (Nat.le_of_lt hi') m0
      have hdl : l.length / m ≤ l.length := Nat.div_le_self _ _
      have hnext : ¬ Sc l r m → ∀ k, 0 < k → k < 1 + m → ¬ Sc l r k := fun hn k k0 k1 => by
        by_cases c : k = m
        · rw [c]; exact hn
        · exact hno k k0 (by omega)
      refine if1 ?_
      refine ⟨_, rfl, al, _, rfl, .inr hL1, _, rfl, _, _, rfl, rfl, (by show (0 : Int) < (m : Int); omega), rfl, _, rfl, ite2 (fun c => ?_) (fun c => ?_)⟩
      · have c1 : l.length % m = 0 := by
          have := of_decide_eq_true c
          rw [ml] at this
          have := V.int.inj this
          omega
        refine ⟨_, rfl, _, rfl, al, _, rfl, .inr hL1, _, rfl, _, _, rfl, rfl, ⟨by omega, by omega⟩, _, _, rfl, rfl, ?_, rfl, _, rfl, ite2 (fun c => ?_) (fun c => ?_)⟩
        · show (0 : Int) < (((l.map V.int).length : Nat) : Int) / (m : Int)
          rw [ml]
          show (0 : Int) < ((l.length / m : Nat) : Int)
          omega
        · have ed : (((l.map V.int).length : Nat) : Int) / (m : Int) = ((l.length / m : Nat) : Int) := by rw [ml]; rfl
          have c2 : (((l.length / m : Nat) : Int)) ∣ r := by
            have := of_decide_eq_true c
            rw [ed] at this
            exact Int.dvd_of_emod_eq_zero (V.int.inj this)
          refine ⟨_, rfl, _, rfl, al, _, rfl, .inr hL1, _, rfl, _, _, rfl, rfl, ⟨by omega, by omega⟩, _, _, rfl, rfl, ⟨by rw [ed]; omega, by rw [ed]; omega⟩, ?_⟩
          rw [ed]
          refine gn1 ?_
          dsimp only
          refine if1 (tb1 (cb1 (lc_lb (j := 4) ?_)))
          refine ⟨_, rfl, al, _, rfl, .inr hL1, _, rfl, _, _, rfl, rfl, _, rfl, by rw [ml]; omega, by rw [ml]; omega, ?_⟩
          rw [ml]
          refine lc_map wk_range (fun i y H => y = .bl (decide (l.getD (i + m) 0 = l.getD i 0 + r / ((l.length / m : Nat) : Int)))) (fun _ _ _ _ => True.intro) (fun _ _ _ _ _ r => r) True.intro (by omega) (fun i x H' Q' hlt hx e' k => ?_) ?_
          · subst hx
            refine ⟨_, rfl, _, rfl, _, rfl, _, _, rfl, rfl, al, _, _, _, rfl, rfl, Evl.ex_t e' hL1, atI_int (i := i + m) (by omega) (by omega), _, rfl, _, rfl, al, _, _, _, rfl, rfl, Evl.ex_t e' hL1, atI_int (i := i) (by omega) (by omega), _, rfl, _, _, rfl, rfl, rfl, ?_⟩
            rw [dInt]
            exact k _ _ Ex.r rfl
          · refine fun D ys H2 hl hDn e' hD' hr' => goes_end (s := r / ((l.length / m : Nat) : Int)) hi' (fun H3 e3 => ⟨_, rfl, ?_⟩) D ys H2 hl e' hD' hr'
            cases hg : goes l m (r / ((l.length / m : Nat) : Int)) with
            | true =>
              refine iteT (rt1 (tp1 (cs1 ?_)))
              refine ⟨_, rfl, _, rfl, _, rfl, rSlA_take (K := K) (Evl.ex_t e3 hL1) (by rw [ml]; omega) rfl fun b H4 e4 hb => ?_⟩
              refine ⟨_, rfl, (by show 2 ≤ sizeLine; decide), fun p hp => ?_⟩
              rw [take_ints] at hb
              exact q m p _ _ (((e1.trans e3).trans e4).trans (Evl.Ex.new hp)) m0 (Nat.le_of_lt hi') ⟨Nat.dvd_of_mod_eq_zero c1, c2, goes_iff.mp hg⟩ (fun k k0 k1 => hno k k0 (by omega)) upd_same ((tp_ints hb).ex (Evl.Ex.new hp))
            | false =>
              refine iteF ?_
              exact ⟨_, _, rfl, e1.trans e3, hnext fun z => by rw [goes_iff.mpr z.2.2] at hg; cases hg⟩
        · refine ⟨_, _, rfl, e1, hnext fun z => c (decide_eq_true ?_)⟩
          have ed : (((l.map V.int).length : Nat) : Int) / (m : Int) = ((l.length / m : Nat) : Int) := by rw [ml]; rfl
          rw [ed]
          show V.int (r % ((l.length / m : Nat) : Int)) = V.int 0
          rw [Int.emod_eq_zero_of_dvd z.2.1]
      · refine iteF ?_
        refine ⟨_, _, rfl, e1, hnext fun z => c (decide_eq_true ?_)⟩
        rw [ml]
        have := Nat.mod_eq_zero_of_dvd z.1
        show V.int ((l.length % m : Nat) : Int) = V.int 0
        rw [this]
        rfl
    · rintro σ' H1 ⟨mo, so, rfl, e1, hno⟩
      have hn : (((l.map V.int).length : Int) - 1).toNat = l.length - 1 := by rw [ml]; omega
      rw [hn] at hno
      refine ⟨_, rfl, _, rfl, (by show 2 ≤ sizeLine; decide), fun p hp => ?_⟩
      have er : r / ((l.length / l.length : Nat) : Int) = r := by rw [Nat.div_self l0]; exact Int.ediv_one r
      refine q l.length p _ _ (e1.trans (Evl.Ex.new hp)) l0 (Nat.le_refl _) (sc_full l0) (fun k k0 k1 => hno k k0 (by omega)) (by rw [er]; exact upd_same) ?_
      rw [List.take_length]
      exact hT.ex (e1.trans (Evl.Ex.new hp))
end
end K28
end
section
set_option Elab.async false
set_option linter.all false
set_option maxRecDepth 100000
set_option maxHeartbeats 4000000
namespace K28
open PySem PySem.Spec PyProof.Rows L2
open Evl (Ex)
theorem atI_neg {ns : List Int} {c : Nat} {z : Int} (hz : z = -1 - (c : Int)) (h : c < ns.length) : atI (ns.map V.int) z = some (.int (ns.getD (ns.length - 1 - c) 0)) := by
  subst hz
  unfold atI ixN
  rw [if_neg (by omega), List.length_map, if_pos (by omega)]
  have e : (-1 - (c : Int) + (ns.length : Int)).toNat = ns.length - 1 - c := by omega
  have hl : ns.length - 1 - c < ns.length := by omega
  rw [e]
  show (ns.map V.int)[ns.length - 1 - c]? = _
  rw [List.getElem?_map, List.getElem?_eq_getElem hl, List.getD_eq_getElem?_getD, List.getElem?_eq_getElem hl]
  rfl
theorem head_take {h l : List Int} {r : Int} {k : Nat} (hk : k ≤ h.length) : h.take k = (List.range k).map (val h l r) := by
  refine List.ext_getElem (by rw [List.length_take, List.length_map, List.length_range]; omega) fun i h1 h2 => ?_
  have hi : i < k := by rw [List.length_take] at h1; omega
  rw [List.getElem_take, List.getElem_map, List.getElem_range, val_lt (by omega), List.getD_eq_getElem?_getD, List.getElem?_eq_getElem (by omega)]
  rfl
section
variable {P : Program} {w : World} {K : PySem.W.Frag} {mg : Str → Option Value} {base : Heap} {CT CM : Addr}
/-! plain_form -/
def spPlain (K : PySem.W.Frag) : Sp := fun vs H Q _ => ∃ (vh vl : V) (h l : List Int) (r : Int), vs = [vh, vl, .int r] ∧ Tp K H vh (intsD h) ∧ Tp K H vl (intsD l) ∧ SzR (h, l, r) ∧
  ∀ (b : List Int × List Int × Int) (v' : V) (H' : Hp), Ex H H' → Plain (h, l, r) b → Tp K H' v' (rawD b) → Q v' H'
abbrev s_plain_form : Stmt := top 28
theorem sc_plain_form : FnScope ["head", "loop", "rise", "keep", "back", "told", "place"] ["head", "loop", "rise"] (defScope s_plain_form) := ⟨rfl, rfl, rfl, by decide +kernel, rfl, by decide +kernel, by decide +kernel⟩
theorem ok_plain_form {f : Addr} {fd : FuncData} (F : Fun K "plain_form" "plain_form" s_plain_form f fd) (T : Txt K mg CT CM) (c_short_loop : C8.Cal P w K mg base 1 "short_loop" (spShort K) []) (c_value_at : C8.Cal P w K mg base 1 "value_at" (spValue K) []) : FnOk P w K mg base CX0 2 f fd ["head", "loop", "rise"] (spPlain K) := by
  refine F.ok sc_plain_form (fun vs H Q E h => ?_) (fun cdv A outer s H vs Q E hr h => ?_)
  · obtain ⟨_, _, _, _, _, rfl, _⟩ := h
    rfl
  · obtain ⟨vh, vl, h, l, r, rfl, hh, hl, ⟨z1, z2, z3, z4⟩, q⟩ := h
    obtain ⟨ah, rfl, hH⟩ := hh.ints
    obtain ⟨al, rfl, hL⟩ := hl.ints
    dsimp only at z1 z2 z3 z4
    have mh : (h.map V.int).length = h.length := List.length_map _
    have ml : (l.map V.int).length = l.length := List.length_map _
    refine ⟨_, (pss_cons (ps_if (pt_cmpR op_eq (pe_callB (r := Evl.rLenS K) call_len_seq (by rfl) T.b_len PySem.boot_len (pa_cons (pv 1) pa_nil)) pe_int (nomark _)) (pss_one (ps_ret (pe_tup (pa_cons (pv 0) (pa_cons (pe_tup pa_nil) (pa_cons pe_int pa_nil)))))) pss_nil)
      (pss_cons (ps_asg (C8.pe_c c_short_loop hr (by omega) rfl (pa_cons (pv 1) (pa_cons (pv 2) pa_nil))) (pg_tup rfl (pgs_cons (pg_name (i := 1) sc_plain_form.nd rfl (Or.inl rfl)) (pgs_cons (pg_name (i := 2) sc_plain_form.nd rfl (Or.inl rfl)) pgs_nil))))
      (pss_cons (ps_set (i := 3) sc_plain_form.nd rfl (Or.inr rfl) (pe_callB (r := Evl.rLenS K) call_len_seq (by rfl) T.b_len PySem.boot_len (pa_cons (pv 0) pa_nil)))
      (C8.pss_cut (ps_while PassesOwn.never (pt_cmpR op_gt (pv 3) pe_int (nomark _)) (pss_cons (ps_set (i := 4) sc_plain_form.nd rfl (Or.inl rfl) (pe_op op_sub (pe_callB (r := Evl.rLenS K) call_len_seq (by rfl) T.b_len PySem.boot_len (pa_cons (pv 0) pa_nil)) (pv 3)))
      (pss_cons (ps_if (pt_cmpR op_ne (pe_ix (r := rIxT K) ix_tup (pv 0) (pe_op op_sub (pv 3) pe_int) (fun _ _ => rfl)) (pe_op op_sub (pe_ix (r := rIxT K) ix_tup (pv 1) (pe_op op_sub (pe_un un_neg pe_int) (pe_op op_mod (pv 4) (pe_callB (r := Evl.rLenS K) call_len_seq (by rfl) T.b_len PySem.boot_len (pa_cons (pv 1) pa_nil)))) (fun _ _ => rfl)) (pe_op op_mul (pv 2) (pe_op op_add (pe_op op_fdiv (pv 4) (pe_callB (r := Evl.rLenS K) call_len_seq (by rfl) T.b_len PySem.boot_len (pa_cons (pv 1) pa_nil))) pe_int))) (nomark _)) (pss_one ps_break) pss_nil)
      (pss_one (ps_set (i := 3) sc_plain_form.nd rfl (Or.inr rfl) (pe_op op_sub (pv 3) pe_int))))))
      (pss_cons (ps_set (i := 5) sc_plain_form.nd rfl (Or.inr rfl) (pe_tup (pa_cons (pv 0) (pa_cons (pv 1) (pa_cons (pv 2) pa_nil)))))
      (pss_one (ps_ret (pe_tup (pa_cons (pe_slice (r := rSlA K) sl_tupA (pv 0) po_none (po_some (pv 3))) (pa_cons (pe_callTy (r := rTupOf K) call_tuple_of (by rfl) T.b_tuple (by decide +kernel) (pa_cons (pe_lc (own := [("place", 6)]) (g := gName 6) (tt := tYes) rfl sc_plain_form.nd (pi_range1 rfl T.b_range (pa_cons (pe_callB (r := Evl.rLenS K) call_len_seq (by rfl) T.b_len PySem.boot_len (pa_cons (pv 1) pa_nil)) pa_nil)) (blkOk_by (own := [("place", 6)]) (N := ["head", "loop", "rise", "keep", "back", "told", "place"]) (sc := defScope s_plain_form) (by decide +kernel)) (fun _ _ _ _ _ => pg_name (i := 6) sc_plain_form.nd rfl (Or.inl rfl)) (fun _ _ _ _ _ => pts_nil) (fun _ _ _ _ _ => (C8.pe_c c_value_at hr (by omega) rfl (pa_cons (pv 5) (pa_cons (pe_op op_add (pe_op op_add (pv 3) pe_int) (pv 6)) pa_nil))))) pa_nil)) (pa_cons (pv 2) pa_nil))))))))))), ?_⟩
    refine ⟨_, rfl, al, _, rfl, .inr hL, rfl, _, rfl, ite2 (fun c => ?_) (fun c => ?_)⟩
    · have e0 : l = [] := by
        have := of_decide_eq_true c
        rw [ml] at this
        have := V.int.inj this
        exact List.eq_nil_of_length_eq_zero (by omega)
      subst e0
      refine ⟨_, rfl, Nat.zero_le _, fun p hp => ⟨(by show 3 ≤ sizeLine; decide), fun p2 hp2 => ?_⟩⟩
      have e1 : Ex H (upd H p (.tup [])) := Evl.Ex.new hp
      have e2 := e1.trans (Evl.Ex.new (o := .tup [V.ref ah, V.ref p, V.int 0]) hp2)
      refine q (h, [], 0) _ _ e2 (by unfold Plain; rw [if_pos rfl]) (tp_raw (sq_t upd_same) ((tp_ints hH).ex e2) ?_)
      exact (tp_ints (ns := []) (sq_t (H := upd H p (.tup [])) upd_same)).ex (Evl.Ex.new hp2)
    · have l0 : 0 < l.length := by
        rcases Nat.eq_zero_or_pos l.length with z | z
        · exact absurd (by rw [ml, z]; simp) c
        · exact z
      have lne : l ≠ [] := fun z => by rw [z] at l0; simp at l0
      refine ⟨_, rfl, _, rfl, _, l, r, rfl, tp_ints hL, l0, z2, fun m a vl' H1 e1 m0 mle hsc hls ha hT => ?_⟩
      obtain ⟨al', rfl, hL'⟩ := hT.ints
      have hv := fun n => sc_val (h := h) l0 m0 hsc n
      have hlst := short_least (h := h) l0 hls
      have hr0 : 0 ≤ r / ((l.length / m : Nat) : Int) := Int.ediv_nonneg z3 (Int.natCast_nonneg _)
      have hr1 : r / ((l.length / m : Nat) : Int) ≤ r := Int.ediv_le_self _ z3
      generalize r / ((l.length / m : Nat) : Int) = r' at *
      have lt' : (l.take m).length = m := by rw [List.length_take]; omega
      generalize l.take m = l' at *
      have ml' : (l'.map V.int).length = l'.length := List.length_map _
      subst lt'
      clear hsc hls
      have hH1 := Evl.ex_t e1 hH
      refine ⟨a, _, rfl, sq_t ha, rfl, _, _, rfl, _, _, rfl, rfl, ?_⟩
      refine ⟨_, rfl, ah, _, rfl, .inr hH1, ?_⟩
      rw [mh]
      refine ⟨fun σ' H' => ∃ (k : Nat) (bo : Option V), σ' = [some (.ref ah), some (.ref al'), some (.int r'), some (.int (k : Int)), bo, none, none] ∧ Ex H1 H' ∧ k ≤ h.length ∧ QP (val h l' r') k l'.length r' ∧ (∀ j, k = j + 1 → val h l' r' (j + l'.length) ≠ val h l' r' j + r'), ?_, ?_⟩
      · refine ⟨fun mm σ' H' => ∃ bo : Option V, σ' = [some (.ref ah), some (.ref al'), some (.int r'), some (.int (mm : Int)), bo, none, none] ∧ Ex H1 H' ∧ mm ≤ h.length ∧ QP (val h l' r') mm l'.length r', ⟨h.length, none, rfl, Ex.r, Nat.le_refl _, val_qp m0⟩, ?_⟩
        rintro mm σ' H' ⟨bo, rfl, e2, hle, hq⟩
        refine ⟨_, rfl, _, _, rfl, rfl, _, rfl, ite2 (fun c => ?_) (fun c => ?_)⟩
        · have c1 : 0 < mm := by have := of_decide_eq_true c; omega
          obtain ⟨n, rfl⟩ : ∃ n, mm = n + 1 := ⟨mm - 1, by omega⟩
          have hb := back_eq m0 (show n < h.length by omega) hq
          have hH2 := Evl.ex_t e2 hH1
          have hL2 := Evl.ex_t e2 hL'
          refine ⟨_, fun _ _ n => n, ?_⟩
          refine ⟨_, rfl, ah, _, rfl, .inr hH2, _, rfl, _, _, rfl, rfl, ?_⟩
          have eb : ((h.map V.int).length : Int) - ((n + 1 : Nat) : Int) = ((h.length - 1 - n : Nat) : Int) := by rw [mh]; omega
          refine gn1 ?_
          dsimp only
          rw [eb]
          have hdl : (h.length - 1 - n) / l'.length ≤ h.length - 1 - n := Nat.div_le_self _ _
          have hmd : (h.length - 1 - n) % l'.length < l'.length := Nat.mod_lt _ m0
          refine ⟨_, rfl, _, rfl, _, _, rfl, rfl, ah, _, _, _, rfl, rfl, hH2, atI_int (i := n) (by omega) (by omega), ?_⟩
          refine ⟨_, rfl, _, rfl, _, rfl, _, rfl, al', _, rfl, .inr hL2, _, _, rfl, rfl, (by show (0 : Int) < ((l'.map V.int).length : Int); rw [ml']; omega), _, _, rfl, rfl, al', _, _, _, rfl, rfl, hL2,
            atI_neg (c := (h.length - 1 - n) % l'.length) (by rw [ml']; rfl) hmd, ?_⟩
          refine ⟨_, rfl, _, rfl, _, rfl, al', _, rfl, .inr hL2, _, _, rfl, rfl, ⟨by rw [ml']; omega, by rw [ml']; omega⟩, _, _, rfl, rfl, _, _, rfl, rfl, .inl ⟨by omega, by omega⟩, _, _, rfl, rfl, rfl, _, rfl, ?_⟩
          have ec : h.getD n 0 = l'.getD (l'.length - 1 - (h.length - 1 - n) % l'.length) 0 - r' * ((((h.length - 1 - n : Nat) : Int) / ((l'.map V.int).length : Int)) + 1) ↔ val h l' r' (n + l'.length) = val h l' r' n + r' := by
            rw [ml', hb, val_lt (show n < h.length by omega), Int.mul_add, Int.mul_one]
            show _ = _ - (r' * (((h.length - 1 - n) / l'.length : Nat) : Int) + r') ↔ _
            generalize r' * (((h.length - 1 - n) / l'.length : Nat) : Int) = x
            omega
          by_cases d : val h l' r' (n + l'.length) = val h l' r' n + r'
          · refine if_f ?_ ?_
            · rw [dInt, decide_eq_true (ec.mpr d)]; rfl
            · refine ⟨_, rfl, _, _, rfl, rfl, n, Nat.lt_succ_self n, some (.int ((h.length - 1 - n : Nat) : Int)), ?_, e2, by omega, qp_down hq d⟩
              have : ((n + 1 : Nat) : Int) - 1 = (n : Int) := by omega
              dsimp only
              rw [this]
              rfl
          · refine if_t ?_ ?_
            · rw [dInt, decide_eq_false (fun z => d (ec.mp z))]; rfl
            · exact ⟨n + 1, _, rfl, e2, hle, hq, fun j hj => by
                have : j = n := by omega
                rw [this]; exact d⟩
        · have c1 : mm = 0 := by
            have : ¬ (0 : Int) < (mm : Int) := fun z => c (decide_eq_true z)
            omega
          subst c1
          exact ⟨0, bo, rfl, e2, hle, hq, fun j hj => by omega⟩
      · rintro σ' H2 ⟨k, bo, rfl, e2, hk, hq, hne⟩
        have hH2 := Evl.ex_t e2 hH1
        have hL2 := Evl.ex_t e2 hL'
        refine ⟨_, rfl, _, rfl, _, rfl, (by show 3 ≤ sizeLine; decide), fun p hp => ?_⟩
        have e3 : Ex H2 (upd H2 p (.tup [V.ref ah, V.ref al', V.int r'])) := Evl.Ex.new hp
        have hp3 : (upd H2 p (.tup [V.ref ah, V.ref al', V.int r'])) p = some (.tup [V.ref ah, V.ref al', V.int r']) := upd_same
        generalize upd H2 p (.tup [V.ref ah, V.ref al', V.int r']) = H3 at *
        refine gn1 ?_
        refine ⟨_, rfl, _, rfl, _, rfl, rSlA_take (K := K) (Evl.ex_t e3 hH2) (by rw [mh]; exact hk) rfl fun b H4 e4 hb => ?_⟩
        rw [take_ints, head_take (l := l') (r := r') hk] at hb
        refine cs1 (cb1 (lc_lb (j := 6) ?_))
        refine ⟨_, rfl, al', _, rfl, .inr (Evl.ex_t (e3.trans e4) hL2), _, rfl, by rw [ml']; omega, by rw [ml']; omega, ?_⟩
        rw [ml']
        refine lc_map wk_range (fun i y H => y = .int (val h l' r' (k + i))) (fun _ _ _ _ => True.intro) (fun _ _ _ _ _ r => r) True.intro (by omega) (fun i x H' Q' hlt hx e' kk => ?_) ?_
        · subst hx
          have e5 := e3.trans (e4.trans e')
          refine ⟨_, rfl, _, rfl, _, _, rfl, rfl, _, rfl, _, _, rfl, rfl, V.ref p, (h, l', r'), k + i, ?_, tp_raw (Evl.ex_t (e4.trans e') (sq_t hp3)) ((tp_ints hH2).ex e5) ((tp_ints hL2).ex e5), ⟨z1, by dsimp only; omega, hr0, by dsimp only; omega⟩, ?_⟩
          · show [V.ref p, V.int ((k : Int) + 1 + (0 + (i : Int)))] = _
            rw [show (k : Int) + 1 + (0 + (i : Int)) = ((k + i : Nat) : Int) + 1 by omega]
          · rw [valV_int (.inl fun (z : l' = []) => by rw [z] at m0; simp at m0)]
            exact kk _ _ Ex.r rfl
        · refine fun D ys H5 hl hDn e5 hD hr' => ?_
          have ey : ys = ((List.range l'.length).map fun i => val h l' r' (k + i)).map V.int := by
            rw [List.map_map]
            refine map_of (f := V.int ∘ fun i => val h l' r' (k + i)) (by rw [List.length_range, hl]; omega) fun i y hy => ⟨i, ?_, hr' i y hy⟩
            have := (List.getElem?_eq_some_iff.mp hy).1
            exact List.getElem?_range (by omega)
          refine ⟨D, ys, rfl, .inl ⟨sq_l hD, fun p5 hp5 => ?_⟩⟩
          refine ⟨_, rfl, (by show 3 ≤ sizeLine; decide), fun p6 hp6 => ?_⟩
          have e6 : Ex H5 (upd H5 p5 (.tup ys)) := Evl.Ex.new hp5
          have e7 := e6.trans (Evl.Ex.new (o := .tup [V.ref b, V.ref p5, V.int r']) hp6)
          have eH : Ex H (upd (upd H5 p5 (.tup ys)) p6 (.tup [V.ref b, V.ref p5, V.int r'])) := e1.trans (e2.trans (e3.trans (e4.trans (e5.trans e7))))
          refine q ((List.range k).map (val h l' r'), (List.range l'.length).map fun i => val h l' r' (k + i), r') _ _ eH ?_ (tp_raw (sq_t upd_same) ((tp_ints hb).ex (e5.trans e7)) ?_)
          · unfold Plain
            rw [if_neg lne]
            refine Canon.congr (canon_of m0 hq (fun j j0 j1 => ?_) hne) hv
            have : val h l' r' = val h l r := funext hv
            rw [this]
            exact hlst j j0 j1
          · refine (tp_ints (sq_t (H := upd H5 p5 (.tup ys)) ?_)).ex (Evl.Ex.new hp6)
            rw [← ey]
            exact upd_same
end
end K28
end
section
set_option Elab.async false
set_option linter.all false
set_option maxRecDepth 100000
set_option maxHeartbeats 4000000
namespace K28
open PySem PySem.Spec PyProof.Rows L2
open Evl (Ex)
/-- what Table lets in -/
structure Good (h l : List Int) (r : Int) : Prop where
  cntH : cnt h = true
  risH : rising h = true
  cntL : cnt l = true
  risL : rising l = true
  join : h ≠ [] → l ≠ [] → h.getD (h.length - 1) 0 ≤ l.getD 0 0
  r0 : 0 ≤ r
  rn : l = [] → r = 0
  top : l ≠ [] → l.getD (l.length - 1) 0 ≤ l.getD 0 0 + r
theorem rIx_A {K : PySem.W.Frag} {H : Hp} {a : Addr} {xs : List V} {i : Int} {v : V} {Q : VK} (h : SqA K H a xs) (ha : atI xs i = some v) (q : Q v H) : rIx K (.ref a) (.int i) H Q := by
  rcases h with h | h
  · exact .inl ⟨a, xs, i, v, rfl, rfl, h, ha, q⟩
  · exact .inr (.inl ⟨a, xs, i, v, rfl, rfl, h, ha, q⟩)
theorem lp_ints {K : PySem.W.Frag} {H : Hp} {a : Addr} {ns : List Int} (h : SqA K H a (ns.map V.int)) (hz : ns.length ≤ 100000) : Lp K 1 H (.ref a) (intsD ns) := by
  refine .inr ⟨a, _, _, rfl, rfl, h, by rw [List.length_map, List.length_map], by rw [List.length_map]; exact hz, fun i x hx => ?_⟩
  obtain ⟨z, hz, rfl⟩ := get_map hx
  exact ⟨.int z, by rw [List.getElem?_map, hz]; rfl, .inl ⟨z, rfl, rfl⟩⟩
theorem depthAll_ints : ∀ ns : List Int, PyData.depthAll (ns.map PyData.int) = 0
  | [] => by simp [PyData.depthAll]
  | n :: r => by simp [PyData.depthAll, PyData.depth, depthAll_ints r]
theorem canLayAll_ints : ∀ ns : List Int, PyData.canLayAll0 (ns.map PyData.int) = true
  | [] => by simp [PyData.canLayAll0]
  | n :: r => by simp [PyData.canLayAll0, PyData.canLay0, canLayAll_ints r]
theorem shaped_ints (ns : List Int) : SeqAt.shaped (intsD ns) = true := by
  unfold SeqAt.shaped intsD
  rw [Bool.and_eq_true]
  refine ⟨by rw [PyData.canLay0]; exact canLayAll_ints ns, decide_eq_true ?_⟩
  rw [PyData.depth, depthAll_ints]
  decide
theorem shaped_raw (x : List Int × List Int × Int) : SeqAt.shaped (rawD x) = true := by
  unfold SeqAt.shaped rawD intsD
  rw [Bool.and_eq_true]
  refine ⟨?_, decide_eq_true ?_⟩
  · simp [PyData.canLay0, PyData.canLayAll0, canLayAll_ints]
  · simp [PyData.depth, PyData.depthAll, depthAll_ints]
theorem eqv_self {d : PyData} (h : SeqAt.shaped d = true) : PyData.eqv d d = true := by
  unfold SeqAt.shaped at h
  rw [Bool.and_eq_true] at h
  exact SeqAt.eqv_refl d h.1
theorem lh_ : ¬ (("head" : Str) = "loop") := by decide +kernel
theorem rh_ : ¬ (("head" : Str) = "rise") := by decide +kernel
theorem rl_ : ¬ (("loop" : Str) = "rise") := by decide +kernel
def tfs (vh vl : V) (r : Int) : List (Str × V) := [("head", vh), ("loop", vl), ("rise", .int r)]
theorem tfs_put (vh vl : V) (r : Int) : putF "rise" (.int r) (putF "loop" vl (putF "head" vh [])) = tfs vh vl r := by
  have e1 : putF "loop" vl (putF "head" vh []) = [(("head" : Str), vh), (("loop" : Str), vl)] := by
    show (if ("head" : Str) = "loop" then _ else (("head" : Str), vh) :: putF "loop" vl []) = _
    rw [if_neg lh_]
    rfl
  rw [e1]
  show (if ("head" : Str) = "rise" then _ else (("head" : Str), vh) :: (if ("loop" : Str) = "rise" then _ else (("loop" : Str), vl) :: putF "rise" (.int r) [])) = _
  rw [if_neg rh_, if_neg rl_]
  rfl
theorem tfs_head (vh vl : V) (r : Int) : (tfs vh vl r).lookup ("head" : Str) = some vh := by rw [← tfs_put]; rw [lookup_putF, if_neg (by decide +kernel), lookup_putF, if_neg (by decide +kernel), lookup_putF, if_pos rfl]
theorem tfs_loop (vh vl : V) (r : Int) : (tfs vh vl r).lookup ("loop" : Str) = some vl := by rw [← tfs_put]; rw [lookup_putF, if_neg (by decide +kernel), lookup_putF, if_pos rfl]
theorem tfs_rise (vh vl : V) (r : Int) : (tfs vh vl r).lookup ("rise" : Str) = some (.int r) := by rw [← tfs_put]; rw [lookup_putF, if_pos rfl]
/-- at p: a table whose plain form is b -/
def TabAt (K : PySem.W.Frag) (CT : Addr) (H : Hp) (p : Addr) (b : List Int × List Int × Int) : Prop := ∃ dx vh vl, H p = some (.ins CT dx (tfs vh vl b.2.2)) ∧ Tp K H vh (intsD b.1) ∧ Tp K H vl (intsD b.2.1)
theorem TabAt.kp {K : PySem.W.Frag} {CT : Addr} {H H' : Hp} {p : Addr} {b : List Int × List Int × Int} (e : Kp H H') (h : TabAt K CT H p b) : TabAt K CT H' p b := by
  obtain ⟨dx, vh, vl, h1, h2, h3⟩ := h
  exact ⟨dx, vh, vl, e _ _ h1 (fun _ z => by cases z), h2.kp e, h3.kp e⟩
section
variable {P : Program} {w : World} {K : PySem.W.Frag} {mg : Str → Option Value} {base : Heap} {CT CM : Addr}
def spChecked (K : PySem.W.Frag) : Sp := fun vs H Q _ => ∃ (ah al : Addr) (h l : List Int) (r : Int), vs = [.ref ah, .ref al, .int r] ∧ SqA K H ah (h.map V.int) ∧ SqA K H al (l.map V.int) ∧ SzR (h, l, r) ∧ Good h l r ∧
  ∀ (b : List Int × List Int × Int) (v' : V) (H' : Hp), Ex H H' → Plain (h, l, r) b → Tp K H' v' (rawD b) → Q v' H'
abbrev s_checked_table : Stmt := top 40
theorem sc_checked_table : FnScope ["head", "loop", "rise"] ["head", "loop", "rise"] (defScope s_checked_table) := ⟨rfl, rfl, rfl, by decide +kernel, rfl, by decide +kernel, by decide +kernel⟩
theorem ok_checked_table {f : Addr} {fd : FuncData} (F : Fun K "checked_table" "checked_table" s_checked_table f fd) (T : Txt K mg CT CM) (c_is_counts : C8.Cal P w K mg base 3 "is_counts" (spCounts K) []) (c_is_rising : C8.Cal P w K mg base 1 "is_rising" (spRising K) [])
    (c_is_count : C8.Cal P w K mg base 2 "is_count" spCount []) (c_deep : C8.Cal P w K mg base 3 "deep" (spDeep K 1) []) (c_plain_form : C8.Cal P w K mg base 2 "plain_form" (spPlain K) []) : FnOk P w K mg base CX0 4 f fd ["head", "loop", "rise"] (spChecked K) := by
  refine F.ok sc_checked_table (fun vs H Q E h => ?_) (fun cdv A outer s H vs Q E hr h => ?_)
  · obtain ⟨_, _, _, _, _, rfl, _⟩ := h
    rfl
  · obtain ⟨ah, al, h, l, r, rfl, hH, hL, hz, g, q⟩ := h
    have z1 : h.length ≤ 100000 := hz.1
    have z2 : l.length ≤ 100000 := hz.2.1
    have mh : (h.map V.int).length = h.length := List.length_map _
    have ml : (l.map V.int).length = l.length := List.length_map _
    refine ⟨_, (pss_cons (ps_if (PW.pt (pw_or (pt_not (pt_val (C8.pe_c c_is_counts hr (by omega) rfl (pa_cons (pv 0) pa_nil)))) (pw_or1 (pt_not (pt_val (C8.pe_c c_is_rising hr (by omega) rfl (pa_cons (pv 0) pa_nil))))))) (pss_one ps_never) pss_nil)
      (pss_cons (ps_if (PW.pt (pw_or (pt_not (pt_val (C8.pe_c c_is_counts hr (by omega) rfl (pa_cons (pv 1) pa_nil)))) (pw_or1 (pt_not (pt_val (C8.pe_c c_is_rising hr (by omega) rfl (pa_cons (pv 1) pa_nil))))))) (pss_one ps_never) pss_nil)
      (pss_cons (ps_if (PW.pt (pw_and (pt_cmpR op_gt (pe_callB (r := Evl.rLenS K) call_len_seq (by rfl) T.b_len PySem.boot_len (pa_cons (pv 0) pa_nil)) pe_int (nomark _)) (pw_and (pt_cmpR op_gt (pe_callB (r := Evl.rLenS K) call_len_seq (by rfl) T.b_len PySem.boot_len (pa_cons (pv 1) pa_nil)) pe_int (nomark _)) (pw_and1 (pt_cmpR op_lt (pe_ix (r := rIx K) ix_seq (pv 1) pe_int (fun _ _ => rfl)) (pe_ix (r := rIx K) ix_seq (pv 0) (pe_un un_neg pe_int) (fun _ _ => rfl)) (nomark _)))))) (pss_one ps_never) pss_nil)
      (pss_cons (ps_if (PW.pt (pw_or (pt_not (pt_val (C8.pe_c c_is_count hr (by omega) rfl (pa_cons (pv 2) pa_nil)))) (pw_or1 (PW.pt (pw_and (pt_cmpR op_eq (pe_callB (r := Evl.rLenS K) call_len_seq (by rfl) T.b_len PySem.boot_len (pa_cons (pv 1) pa_nil)) pe_int (nomark _)) (pw_and1 (pt_cmpR op_gt (pv 2) pe_int (nomark _)))))))) (pss_one ps_never) pss_nil)
      (pss_cons (ps_if (PW.pt (pw_and (pt_cmpR op_gt (pe_callB (r := Evl.rLenS K) call_len_seq (by rfl) T.b_len PySem.boot_len (pa_cons (pv 1) pa_nil)) pe_int (nomark _)) (pw_and1 (pt_cmpR op_gt (pe_ix (r := rIx K) ix_seq (pv 1) (pe_un un_neg pe_int) (fun _ _ => rfl)) (pe_op op_add (pe_ix (r := rIx K) ix_seq (pv 1) pe_int (fun _ _ => rfl)) (pv 2)) (nomark _))))) (pss_one ps_never) pss_nil)
      (pss_one (ps_ret (C8.pe_c c_plain_form hr (by omega) rfl (pa_cons (C8.pe_c c_deep hr (by omega) rfl (pa_cons (pv 0) pa_nil)) (pa_cons (C8.pe_c c_deep hr (by omega) rfl (pa_cons (pv 1) pa_nil)) (pa_cons (pv 2) pa_nil))))))))))), ?_⟩
    refine ⟨_, rfl, ah, h, rfl, hH, z1, fun H1 e1 => ⟨_, rfl, ?_⟩⟩
    refine if_f (by rw [g.cntH]; rfl) ⟨_, rfl, ah, h, rfl, hH.ex e1, z1, fun H2 e2 => ⟨_, rfl, ?_⟩⟩
    refine if_f (by rw [g.risH]; rfl) ?_
    have E2 := e1.trans e2
    clear e1 e2
    refine ⟨_, rfl, al, l, rfl, hL.ex E2, z2, fun H3 e3 => ⟨_, rfl, ?_⟩⟩
    refine if_f (by rw [g.cntL]; rfl) ⟨_, rfl, al, l, rfl, (hL.ex E2).ex e3, z2, fun H4 e4 => ⟨_, rfl, ?_⟩⟩
    refine if_f (by rw [g.risL]; rfl) ?_
    have E4 := E2.trans (e3.trans e4)
    clear e3 e4 E2
    have hH4 := hH.ex E4
    have hL4 := hL.ex E4
    -- the middle: nothing is raised
    suffices rest : (tSeq (tIfS (tOr (tNot (tB (tCall spCount [] C8.E0 (tCons (tVar 2) tNil)))) (tAnd (tTest (tOp rEq (tCB (Evl.rLenS K) (tCons (tVar 1) tNil)) (tC (.int 0)))) (tTest (tOp (rI0 fun i j => .bl (decide (j < i))) (tVar 2) (tC (.int 0)))))) tNever tNext)
        (tSeq (tIfS (tAnd (tTest (tOp (rI0 fun i j => .bl (decide (j < i))) (tCB (Evl.rLenS K) (tCons (tVar 1) tNil)) (tC (.int 0)))) (tTest (tOp (rI0 fun i j => .bl (decide (j < i))) (tOp (rIx K) (tVar 1) (tUn (rU fun i => .int (-i)) (tC (.int 1)))) (tOp (rI0 fun i j => .int (i + j)) (tOp (rIx K) (tVar 1) (tC (.int 0))) (tVar 2))))) tNever tNext)
        (tRet (tCall (spPlain K) [] C8.E0 (tCons (tCall (spDeep K 1) [] C8.E0 (tCons (tVar 0) tNil)) (tCons (tCall (spDeep K 1) [] C8.E0 (tCons (tVar 1) tNil)) (tCons (tVar 2) tNil)))))))
        { nx := fun _ H' => Q .non H', rt := Q } [some (.ref ah), some (.ref al), some (.int r)] H4 by
      refine ⟨_, rfl, ah, _, rfl, hH4, _, _, rfl, rfl, _, rfl, ite2 (fun c => ?_) (fun c => ?_)⟩
      · have h0 : 0 < h.length := by have := of_decide_eq_true c; rw [mh] at this; omega
        refine ⟨_, rfl, al, _, rfl, hL4, _, _, rfl, rfl, _, rfl, ite2 (fun c => ?_) (fun c => ?_)⟩
        · have l0 : 0 < l.length := by have := of_decide_eq_true c; rw [ml] at this; omega
          refine ⟨_, rfl, rIx_A hL4 (atI_int (i := 0) rfl l0) ⟨_, rfl, _, rfl, rIx_A hH4 (atI_neg (c := 0) rfl h0) ⟨_, _, rfl, rfl, _, rfl, if_f (decide_eq_false ?_) rest⟩⟩⟩
          have := g.join (fun z => by rw [z] at h0; simp at h0) (fun z => by rw [z] at l0; simp at l0)
          show ¬ l.getD 0 0 < h.getD (h.length - 1 - 0) 0
          rw [Nat.sub_zero]
          omega
        · exact iteF rest
      · exact iteF rest
    refine ⟨_, rfl, r, rfl, _, rfl, if_f (by rw [decide_eq_true g.r0]; rfl) ?_⟩
    suffices rest : (tSeq (tIfS (tAnd (tTest (tOp (rI0 fun i j => .bl (decide (j < i))) (tCB (Evl.rLenS K) (tCons (tVar 1) tNil)) (tC (.int 0)))) (tTest (tOp (rI0 fun i j => .bl (decide (j < i))) (tOp (rIx K) (tVar 1) (tUn (rU fun i => .int (-i)) (tC (.int 1)))) (tOp (rI0 fun i j => .int (i + j)) (tOp (rIx K) (tVar 1) (tC (.int 0))) (tVar 2))))) tNever tNext)
        (tRet (tCall (spPlain K) [] C8.E0 (tCons (tCall (spDeep K 1) [] C8.E0 (tCons (tVar 0) tNil)) (tCons (tCall (spDeep K 1) [] C8.E0 (tCons (tVar 1) tNil)) (tCons (tVar 2) tNil))))))
        { nx := fun _ H' => Q .non H', rt := Q } [some (.ref ah), some (.ref al), some (.int r)] H4 by
      refine ⟨_, rfl, al, _, rfl, hL4, rfl, _, rfl, ite2 (fun c => ?_) (fun c => ?_)⟩
      · have l0 : l = [] := by
          have := of_decide_eq_true c
          rw [ml] at this
          have := V.int.inj this
          exact List.eq_nil_of_length_eq_zero (by omega)
        refine ⟨_, rfl, _, _, rfl, rfl, _, rfl, if_f (decide_eq_false ?_) rest⟩
        rw [g.rn l0]
        exact Int.lt_irrefl 0
      · exact iteF rest
    suffices rest : (tRet (tCall (spPlain K) [] C8.E0 (tCons (tCall (spDeep K 1) [] C8.E0 (tCons (tVar 0) tNil)) (tCons (tCall (spDeep K 1) [] C8.E0 (tCons (tVar 1) tNil)) (tCons (tVar 2) tNil)))))
        { nx := fun _ H' => Q .non H', rt := Q } [some (.ref ah), some (.ref al), some (.int r)] H4 by
      refine ⟨_, rfl, al, _, rfl, hL4, _, _, rfl, rfl, _, rfl, ite2 (fun c => ?_) (fun c => ?_)⟩
      · have l0 : 0 < l.length := by have := of_decide_eq_true c; rw [ml] at this; omega
        refine ⟨_, rfl, _, rfl, rIx_A hL4 (atI_neg (c := 0) rfl l0) ⟨_, rfl, rIx_A hL4 (atI_int (i := 0) rfl l0) ⟨_, rfl, _, _, rfl, rfl, _, _, rfl, rfl, _, rfl, if_f (decide_eq_false ?_) rest⟩⟩⟩
        have := g.top (fun z => by rw [z] at l0; simp at l0)
        show ¬ l.getD 0 0 + r < l.getD (l.length - 1 - 0) 0
        rw [Nat.sub_zero]
        omega
      · exact iteF rest
    refine ⟨_, rfl, _, _, rfl, lp_ints hH4 z1, fun vh H5 e5 t5 => ⟨_, rfl, _, _, rfl, lp_ints (hL4.ex e5) z2, fun vl H6 e6 t6 => ⟨_, rfl, _, _, h, l, r, rfl, t5.ex e6, t6, hz, fun b v' H' e' hb ht => ?_⟩⟩⟩
    exact q b v' H' (E4.trans (e5.trans (e6.trans e'))) hb ht
/-! Table.__init__ -/
def spTable (K : PySem.W.Frag) (CT : Addr) : Sp := fun vs H Q _ => ∃ (p dx ah al : Addr) (h l : List Int) (r : Int), vs = [.ref p, .ref ah, .ref al, .int r] ∧ H p = some (.ins CT dx []) ∧ SqA K H ah (h.map V.int) ∧ SqA K H al (l.map V.int) ∧ SzR (h, l, r) ∧ Good h l r ∧
  ∀ (b : List Int × List Int × Int) (H' : Hp), (∀ a o, a ≠ p → H a = some o → H' a = some o) → Plain (h, l, r) b → TabAt K CT H' p b → Q .non H'
abbrev s_Table_init : Stmt := inClass (top 41) 0
theorem sc_Table_init : FnScope ["self", "head", "loop", "rise", "told"] ["self", "head", "loop", "rise"] (defScope s_Table_init) := ⟨rfl, rfl, rfl, by decide +kernel, rfl, by decide +kernel, by decide +kernel⟩
theorem ok_Table_init {f : Addr} {fd : FuncData} {dvs : List V} (F : FunD K "__init__" "Table.__init__" (defArgs s_Table_init) (defBody s_Table_init) (defScope s_Table_init) dvs [] f fd) (T : Txt K mg CT CM) (c_checked_table : C8.Cal P w K mg base 4 "checked_table" (spChecked K) []) : FnOk P w K mg base CX0 5 f fd ["self", "head", "loop", "rise"] (spTable K CT) := by
  refine F.ok sc_Table_init (fun vs H Q E h => ?_) (fun cdv A outer s H vs Q E hr h => ?_)
  · obtain ⟨_, _, _, _, _, _, _, rfl, _⟩ := h
    rfl
  · obtain ⟨p, dx, ah, al, h, l, r, rfl, hp, hH, hL, hz, g, q⟩ := h
    refine ⟨_, (pss_cons (ps_set (i := 4) sc_Table_init.nd rfl (Or.inl rfl) (C8.pe_c c_checked_table hr (by omega) rfl (pa_cons (pv 1) (pa_cons (pv 2) (pa_cons (pv 3) pa_nil)))))
      (pss_cons (ps_fld (pv 0) (pe_ix (r := rIxT K) ix_tup (pv 4) pe_int (fun _ _ => rfl)) rfl)
      (pss_cons (ps_fld (pv 0) (pe_ix (r := rIxT K) ix_tup (pv 4) pe_int (fun _ _ => rfl)) rfl)
      (pss_one (ps_fld (pv 0) (pe_ix (r := rIxT K) ix_tup (pv 4) pe_int (fun _ _ => rfl)) rfl))))), ?_⟩
    refine ⟨_, rfl, _, rfl, _, rfl, ah, al, h, l, r, rfl, hH, hL, hz, g, fun b v' H1 e1 hb ht => ?_⟩
    obtain ⟨a, vh, vl, rfl, hq, th, tl⟩ := ht.raw
    have h1 := e1 _ _ hp
    have k1 : Kp H1 (upd H1 p (.ins CT dx (tfs vh vl b.2.2))) ∨ True := .inr True.intro
    have hT : ∀ o, SqT K (upd H1 p o) a [vh, vl, .int b.2.2] := fun o => by
      rcases hq with (hq | ⟨u, hq⟩) | hq
      · exact .inl (.inl (by rw [upd_ne (fun z => by rw [z, h1] at hq; cases hq)]; exact hq))
      · exact .inl (.inr ⟨u, by rw [upd_ne (fun z => by rw [z, h1] at hq; cases hq)]; exact hq⟩)
      · exact .inr hq
    refine ⟨_, rfl, a, _, _, _, rfl, rfl, hq, rfl, _, rfl, p, CT, dx, [], rfl, h1, T.clT, T.t_head, (by show 0 < 1000; decide), ?_⟩
    refine ⟨_, rfl, a, _, _, _, rfl, rfl, hT _, rfl, _, rfl, p, CT, dx, _, rfl, upd_same, T.clT, T.t_loop, (by show 1 < 1000; decide), ?_⟩
    rw [upd_upd]
    refine ⟨_, rfl, a, _, _, _, rfl, rfl, hT _, rfl, _, rfl, p, CT, dx, _, rfl, upd_same, T.clT, T.t_rise, ?_, ?_⟩
    · have : (putF "loop" vl (putF "head" vh [])).length = 2 := by
        show (if ("head" : Str) = "loop" then _ else (("head" : Str), vh) :: putF "loop" vl []).length = 2
        rw [if_neg lh_]
        rfl
      rw [this]
      decide
    · rw [upd_upd, tfs_put]
      have ne : ∀ c o, H c = some o → c ≠ p → upd H1 p (.ins CT dx (tfs vh vl b.2.2)) c = some o := fun c o hc n => by rw [upd_ne n]; exact e1 _ _ hc
      have kk : ∀ {v : V} {d : PyData}, Tp K H1 v d → Tp K (upd H1 p (.ins CT dx (tfs vh vl b.2.2))) v d := fun {v d} t => tp_upd h1 t
      exact q b _ (fun c o n hc => ne c o hc n) hb ⟨dx, vh, vl, upd_same, kk th, kk tl⟩
end
end K28
end
section
set_option Elab.async false
set_option linter.all false
set_option maxRecDepth 100000
set_option maxHeartbeats 4000000
namespace K28
open PySem PySem.Spec PyProof.Rows L2
open Evl (Ex)
theorem TabAt.ex {K : PySem.W.Frag} {CT : Addr} {H H' : Hp} {p : Addr} {b : List Int × List Int × Int} (e : Ex H H') (h : TabAt K CT H p b) : TabAt K CT H' p b := h.kp (.of e)
/-! deeds: none gives, some k takes at the inlet k -/
def dv : Option Nat → V
  | none => .str "give"
  | some k => .int (k : Int)
def dd : Option Nat → PyData
  | none => .str "give"
  | some k => .int (k : Int)
def deedsD (ds : List (Option Nat)) : PyData := .tuple (ds.map dd)
def DOk (n : Nat) (ds : List (Option Nat)) : Prop := ∀ d ∈ ds, ∀ k, d = some k → k < n
theorem tp_dd {K : PySem.W.Frag} {H : Hp} (d : Option Nat) : Tp K H (dv d) (dd d) := by
  cases d with
  | none => exact .str _
  | some k => exact .int _
theorem tpAll_dd {K : PySem.W.Frag} {H : Hp} : ∀ ds : List (Option Nat), TpAll K H (ds.map dv) (ds.map dd)
  | [] => .nil
  | d :: r => .cons (tp_dd d) (tpAll_dd r)
theorem dd_all {K : PySem.W.Frag} {H : Hp} : ∀ {ds : List (Option Nat)} {xs : List V}, TpAll K H xs (ds.map dd) → xs = ds.map dv
  | [], _, .nil => rfl
  | none :: r, _, .cons (.str _) h => by rw [dd_all h]; rfl
  | some k :: r, _, .cons (.int _) h => by rw [dd_all h]; rfl
theorem tp_deeds {K : PySem.W.Frag} {H : Hp} {a : Addr} {ds : List (Option Nat)} (h : SqT K H a (ds.map dv)) : Tp K H (.ref a) (deedsD ds) := .tup h (tpAll_dd ds)
theorem Tp.deeds {K : PySem.W.Frag} {H : Hp} {v : V} {ds : List (Option Nat)} (h : Tp K H v (deedsD ds)) : ∃ a, v = .ref a ∧ SqT K H a (ds.map dv) := by
  unfold deedsD at h
  cases h with
  | tup q r => exact ⟨_, rfl, by rw [← dd_all r]; exact q⟩
theorem all_true {K : PySem.W.Frag} {H1 H' : Hp} {Q : VK} {n : Nat} (q : ∀ H', Ex H1 H' → Q (.bl true) H') (D : Addr) (ys : List V) (e : Ex H1 H') (hD : H' D = some (.lst ys)) (hr : ∀ (i : Nat) y, ys[i]? = some y → y = .bl true) : rAll K [.ref D] H' Q := by
  have ey : ys = (List.replicate ys.length true).map V.bl := by
    refine map_of (f := V.bl) (by rw [List.length_replicate]) fun i y h => ⟨true, ?_, hr i y h⟩
    have := (List.getElem?_eq_some_iff.mp h).1
    rw [List.getElem?_replicate, if_pos this]
  refine ⟨D, _, rfl, sq_l (by rw [← ey]; exact hD), ?_⟩
  have : (List.replicate ys.length true).all id = true := by simp
  rw [this]
  exact q H' e
theorem any_false {K : PySem.W.Frag} {H1 H' : Hp} {Q : VK} (q : ∀ H', Ex H1 H' → Q (.bl false) H') (D : Addr) (ys : List V) (e : Ex H1 H') (hD : H' D = some (.lst ys)) (hr : ∀ (i : Nat) y, ys[i]? = some y → y = .bl false) : rAny K [.ref D] H' Q := by
  have ey : ys = (List.replicate ys.length false).map V.bl := by
    refine map_of (f := V.bl) (by rw [List.length_replicate]) fun i y h => ⟨false, ?_, hr i y h⟩
    have := (List.getElem?_eq_some_iff.mp h).1
    rw [List.getElem?_replicate, if_pos this]
  refine ⟨D, _, rfl, sq_l (by rw [← ey]; exact hD), ?_⟩
  have : (List.replicate ys.length false).any id = false := by simp
  rw [this]
  exact q H' e
section
variable {P : Program} {w : World} {K : PySem.W.Frag} {mg : Str → Option Value} {base : Heap} {CT CM : Addr}
/-! a table called -/
def spCall (K : PySem.W.Frag) (CT : Addr) : Sp := fun vs H Q _ => ∃ (p : Addr) (b : List Int × List Int × Int) (n : Nat), vs = [.ref p, .int ((n : Int) + 1)] ∧ TabAt K CT H p b ∧ SzR b ∧ ∀ H', Ex H H' → Q (valV b n) H'
abbrev s_Table_call : Stmt := inClass (top 41) 3
theorem sc_Table_call : FnScope ["self", "n"] ["self", "n"] (defScope s_Table_call) := ⟨rfl, rfl, rfl, by decide +kernel, rfl, by decide +kernel, by decide +kernel⟩
theorem ok_Table_call {f : Addr} {fd : FuncData} (F : Fun K "__call__" "Table.__call__" s_Table_call f fd) (T : Txt K mg CT CM) (c_is_count : C8.Cal P w K mg base 2 "is_count" spCount []) (c_value_at : C8.Cal P w K mg base 1 "value_at" (spValue K) []) : FnOk P w K mg base CX0 3 f fd ["self", "n"] (spCall K CT) := by
  refine F.ok sc_Table_call (fun vs H Q E h => ?_) (fun cdv A outer s H vs Q E hr h => ?_)
  · obtain ⟨_, _, _, rfl, _⟩ := h
    rfl
  · obtain ⟨p, b, n, rfl, ⟨dx, vh, vl, hp, th, tl⟩, hz, q⟩ := h
    refine ⟨_, (pss_cons (ps_if (PW.pt (pw_and (pt_cmpR op_notN (pv 1) pe_non (nomark _)) (pw_and1 (pt_not (pt_val (C8.pe_c c_is_count hr (by omega) rfl (pa_cons (pv 1) pa_nil))))))) (pss_one ps_never) pss_nil)
      (pss_one (ps_ret (C8.pe_c c_value_at hr (by omega) rfl (pa_cons (pe_tup (pa_cons (pe_fldK (K := K) (pv 0) rfl rfl) (pa_cons (pe_fldK (K := K) (pv 0) rfl rfl) (pa_cons (pe_fldK (K := K) (pv 0) rfl rfl) pa_nil)))) (pa_cons (pv 1) pa_nil)))))), ?_⟩
    refine ⟨_, rfl, rfl, _, rfl, if_t (by simp) ⟨_, rfl, _, rfl, _, rfl, ?_⟩⟩
    refine if_f (by rw [decide_eq_true (show (0 : Int) ≤ (n : Int) + 1 by omega)]; rfl) ?_
    refine ⟨_, rfl, p, CT, dx, _, _, rfl, hp, T.clT, T.t_head, tfs_head _ _ _, _, rfl, p, CT, dx, _, _, rfl, hp, T.clT, T.t_loop, tfs_loop _ _ _, _, rfl, p, CT, dx, _, _, rfl, hp, T.clT, T.t_rise, tfs_rise _ _ _, (by show 3 ≤ sizeLine; decide), fun t ht => ?_⟩
    have e := Evl.Ex.new (o := .tup [vh, vl, .int b.2.2]) ht
    exact ⟨_, rfl, _, b, n, rfl, tp_raw (sq_t upd_same) (th.ex e) (tl.ex e), hz, q _ e⟩
/-! two tables compared: alike ones -/
def RTab (K : PySem.W.Frag) (CT : Addr) (a b : Addr) (H : Hp) : Prop := ∃ t, TabAt K CT H a t ∧ TabAt K CT H b t
abbrev s_Table_eq : Stmt := inClass (top 41) 7
theorem sc_Table_eq : FnScope ["self", "other"] ["self", "other"] (defScope s_Table_eq) := ⟨rfl, rfl, rfl, by decide +kernel, rfl, by decide +kernel, by decide +kernel⟩
theorem ok_Table_eq {f : Addr} {fd : FuncData} (F : Fun K "__eq__" "Table.__eq__" s_Table_eq f fd) (T : Txt K mg CT CM) : FnOk P w K mg base CX0 1 f fd ["self", "other"] (spEq (RTab K CT)) := by
  refine F.ok sc_Table_eq (fun vs H Q E h => ?_) (fun cdv A outer s H vs Q E hr h => ?_)
  · obtain ⟨_, _, rfl, _⟩ := h
    rfl
  · obtain ⟨a, b, rfl, ⟨t, ⟨dx, vh, vl, hp, th, tl⟩, ⟨dy, wh, wl, hq, uh, ul⟩⟩, q⟩ := h
    refine ⟨_, (pss_one (ps_ret (pe_and (pe_callB (r := rIsi K) call_isi (by rfl) T.b_isinstance (by decide +kernel) (pa_cons (pv 1) (pa_cons (C8.pe_gc rfl T.g_Table) pa_nil))) (pe_and (pe_cmpR (r := rEqD K) (op_eqD hr.units) (pe_fldK (K := K) (pv 0) rfl rfl) (pe_fldK (K := K) (pv 1) rfl rfl) (nomark _)) (pe_and (pe_cmpR (r := rEqD K) (op_eqD hr.units) (pe_fldK (K := K) (pv 0) rfl rfl) (pe_fldK (K := K) (pv 1) rfl rfl) (nomark _)) (pe_one (pe_cmpR op_eq (pe_fldK (K := K) (pv 0) rfl rfl) (pe_fldK (K := K) (pv 1) rfl rfl) (nomark _)))))))), ?_⟩
    refine ⟨_, rfl, _, _, _, _, true, rfl, .own _, .base (.ins hq T.isT.cl T.isT.ha T.isT.hn T.isT.htk T.isT.hm), kit_own _, true, rfl, iteT ?_⟩
    refine ⟨_, rfl, a, CT, dx, _, _, rfl, hp, T.clT, T.t_head, tfs_head _ _ _, _, rfl, b, CT, dy, _, _, rfl, hq, T.clT, T.t_head, tfs_head _ _ _, _, _, th.dp, uh.dp, shaped_ints _, shaped_ints _, ?_⟩
    rw [eqv_self (shaped_ints _)]
    refine ⟨true, rfl, iteT ?_⟩
    refine ⟨_, rfl, a, CT, dx, _, _, rfl, hp, T.clT, T.t_loop, tfs_loop _ _ _, _, rfl, b, CT, dy, _, _, rfl, hq, T.clT, T.t_loop, tfs_loop _ _ _, _, _, tl.dp, ul.dp, shaped_ints _, shaped_ints _, ?_⟩
    rw [eqv_self (shaped_ints _)]
    refine ⟨true, rfl, iteT ?_⟩
    refine ⟨_, rfl, a, CT, dx, _, _, rfl, hp, T.clT, T.t_rise, tfs_rise _ _ _, _, rfl, b, CT, dy, _, _, rfl, hq, T.clT, T.t_rise, tfs_rise _ _ _, rfl, ?_⟩
    rw [decide_eq_true rfl]
    exact q _ (fun _ _ h => h)
/-! is_deed -/
def spDeed : Sp := fun vs H Q _ => ∃ (n : Nat) (d : Option Nat), vs = [.int (n : Int), dv d] ∧ (∀ k, d = some k → k < n) ∧ ∀ H', Ex H H' → Q (.bl true) H'
abbrev s_is_deed : Stmt := top 51
theorem sc_is_deed : FnScope ["inlets", "thing"] ["inlets", "thing"] (defScope s_is_deed) := ⟨rfl, rfl, rfl, by decide +kernel, rfl, by decide +kernel, by decide +kernel⟩
theorem ok_is_deed {f : Addr} {fd : FuncData} (F : Fun K "is_deed" "is_deed" s_is_deed f fd) (T : Txt K mg CT CM) (c_is_integer : C8.Cal P w K mg base 1 "is_integer" spInteger []) : FnOk P w K mg base CX0 2 f fd ["inlets", "thing"] spDeed := by
  refine F.ok sc_is_deed (fun vs H Q E h => ?_) (fun cdv A outer s H vs Q E hr h => ?_)
  · obtain ⟨_, _, rfl, _⟩ := h
    rfl
  · obtain ⟨n, d, rfl, hk, q⟩ := h
    refine ⟨_, (pss_cons (ps_if (pt_val (pe_callB (r := rIsi K) call_isi (by rfl) T.b_isinstance (by decide +kernel) (pa_cons (pv 1) (pa_cons (pe_bltn (v := .ty "str") rfl T.b_str (by decide +kernel) rfl) pa_nil)))) (pss_one (ps_ret (pe_cmpR op_eq (pv 1) (C8.pe_gc rfl T.g_GIVE) (nomark _)))) pss_nil)
      (pss_one (ps_ret (pe_and (C8.pe_c c_is_integer hr (by omega) rfl (pa_cons (pv 1) pa_nil)) (pe_one (pe_chain op_le op_lt pe_int (pv 1) (pv 0))))))), ?_⟩
    cases d with
    | none =>
      refine ⟨_, rfl, _, _, _, _, true, rfl, .ty _, .base (.str _), kit_ty (by decide +kernel), true, rfl, iteT ⟨_, rfl, rfl, ?_⟩⟩
      exact q _ Ex.r
    | some k =>
      have := hk k rfl
      refine ⟨_, rfl, _, _, _, _, false, rfl, .ty _, .base (.int _), kit_ty (by decide +kernel), false, rfl, iteF ⟨_, rfl, _, rfl, true, rfl, iteT ?_⟩⟩
      refine ⟨_, rfl, _, _, rfl, rfl, _, rfl, if_t (decide_eq_true (show (0 : Int) ≤ (k : Int) by omega)) ⟨_, rfl, _, _, rfl, rfl, ?_⟩⟩
      dsimp only
      rw [decide_eq_true (show (k : Int) < (n : Int) by omega)]
      exact q _ Ex.r
/-! is_deeds -/
def spDeeds (K : PySem.W.Frag) : Sp := fun vs H Q _ => ∃ (n : Nat) (a : Addr) (ds : List (Option Nat)), vs = [.int (n : Int), .ref a] ∧ SqA K H a (ds.map dv) ∧ ds.length ≤ 100000 ∧ DOk n ds ∧ ∀ H', Ex H H' → Q (.bl true) H'
abbrev s_is_deeds : Stmt := top 52
theorem sc_is_deeds : FnScope ["inlets", "thing", "one"] ["inlets", "thing"] (defScope s_is_deeds) := ⟨rfl, rfl, rfl, by decide +kernel, rfl, by decide +kernel, by decide +kernel⟩
theorem ok_is_deeds {f : Addr} {fd : FuncData} (F : Fun K "is_deeds" "is_deeds" s_is_deeds f fd) (T : Txt K mg CT CM) (c_is_listed : C8.Cal P w K mg base 1 "is_listed" (spListed K) []) (c_is_deed : C8.Cal P w K mg base 2 "is_deed" spDeed []) : FnOk P w K mg base CX0 3 f fd ["inlets", "thing"] (spDeeds K) := by
  refine F.ok sc_is_deeds (fun vs H Q E h => ?_) (fun cdv A outer s H vs Q E hr h => ?_)
  · obtain ⟨_, _, _, rfl, _⟩ := h
    rfl
  · obtain ⟨n, a, ds, rfl, hS, hz, hd, q⟩ := h
    obtain ⟨t, ty, hk⟩ := hS.ty
    have hz' : (ds.map dv).length < 1000000 := by rw [List.length_map]; omega
    rcases hS with hS | hS
    · refine ⟨_, (pss_one (ps_ret (pe_and (C8.pe_c c_is_listed hr (by omega) rfl (pa_cons (pv 1) pa_nil)) (pe_one (pe_callB (r := rAll K) (cr_all rfl) (by rfl) T.b_all (by decide +kernel) (pa_cons (pe_lc (own := [("one", 2)]) (g := gName 2) (tt := tYes) rfl sc_is_deeds.nd (pi_list (pv 1)) (blkOk_by (own := [("one", 2)]) (N := ["inlets", "thing", "one"]) (sc := defScope s_is_deeds) (by decide +kernel)) (fun _ _ _ _ _ => pg_name (i := 2) sc_is_deeds.nd rfl (Or.inl rfl)) (fun _ _ _ _ _ => pts_nil) (fun _ _ _ _ _ => (C8.pe_c c_is_deed hr (by omega) rfl (pa_cons (pv 0) (pa_cons (pv 2) pa_nil))))) pa_nil)))))), ?_⟩
      refine ⟨_, rfl, _, t, true, rfl, ty, hk, fun H1 e1 => ⟨true, rfl, iteT (cb1 (lc_lb (j := 2) ?_))⟩⟩
      refine ⟨_, rfl, a, rfl, ⟨_, Evl.ex_l e1 hS⟩, lc_map wk_list (fun i y H => y = .bl true) (fun _ _ e g => Evl.ex_l e g) (fun _ _ _ _ _ r => r) (Evl.ex_l e1 hS) hz' (fun i x H' Q' hi hx e' k => ?_)
        (fun D ys H' hl _ e' hD' hr' => all_true (n := 0) (fun H2 e2 => q H2 (e1.trans e2)) D ys e' hD' hr')⟩
      obtain ⟨d, hd', rfl⟩ := get_map hx
      exact ⟨_, rfl, _, rfl, n, d, rfl, hd d (List.mem_of_getElem? hd'), fun H2 e2 => k _ _ e2 rfl⟩
    · refine ⟨_, (pss_one (ps_ret (pe_and (C8.pe_c c_is_listed hr (by omega) rfl (pa_cons (pv 1) pa_nil)) (pe_one (pe_callB (r := rAll K) (cr_all rfl) (by rfl) T.b_all (by decide +kernel) (pa_cons (pe_lc (own := [("one", 2)]) (g := gName 2) (tt := tYes) rfl sc_is_deeds.nd (pi_tup (pv 1)) (blkOk_by (own := [("one", 2)]) (N := ["inlets", "thing", "one"]) (sc := defScope s_is_deeds) (by decide +kernel)) (fun _ _ _ _ _ => pg_name (i := 2) sc_is_deeds.nd rfl (Or.inl rfl)) (fun _ _ _ _ _ => pts_nil) (fun _ _ _ _ _ => (C8.pe_c c_is_deed hr (by omega) rfl (pa_cons (pv 0) (pa_cons (pv 2) pa_nil))))) pa_nil)))))), ?_⟩
      refine ⟨_, rfl, _, t, true, rfl, ty, hk, fun H1 e1 => ⟨true, rfl, iteT (cb1 (lc_lb (j := 2) ?_))⟩⟩
      refine ⟨_, rfl, a, rfl, ⟨_, Evl.ex_t e1 hS⟩, lc_map wk_tup (fun i y H => y = .bl true) (fun _ _ e g => Evl.ex_t e g) (fun _ _ _ _ _ r => r) (Evl.ex_t e1 hS) hz' (fun i x H' Q' hi hx e' k => ?_)
        (fun D ys H' hl _ e' hD' hr' => all_true (n := 0) (fun H2 e2 => q H2 (e1.trans e2)) D ys e' hD' hr')⟩
      obtain ⟨d, hd', rfl⟩ := get_map hx
      exact ⟨_, rfl, _, rfl, n, d, rfl, hd d (List.mem_of_getElem? hd'), fun H2 e2 => k _ _ e2 rfl⟩
/-! is_ways: one way -/
def spWays (K : PySem.W.Frag) : Sp := fun vs H Q _ => ∃ (n : Nat) (a b : Addr) (ds : List (Option Nat)), vs = [.int (n : Int), .ref a] ∧ SqL K H a [.ref b] ∧ SqA K H b (ds.map dv) ∧ 0 < ds.length ∧ ds.length ≤ 100000 ∧ DOk n ds ∧ ∀ H', Ex H H' → Q (.bl true) H'
abbrev s_is_ways : Stmt := top 53
theorem sc_is_ways : FnScope ["inlets", "thing", "one"] ["inlets", "thing"] (defScope s_is_ways) := ⟨rfl, rfl, rfl, by decide +kernel, rfl, by decide +kernel, by decide +kernel⟩
theorem ok_is_ways {f : Addr} {fd : FuncData} (F : Fun K "is_ways" "is_ways" s_is_ways f fd) (T : Txt K mg CT CM) (c_is_listed : C8.Cal P w K mg base 1 "is_listed" (spListed K) []) (c_is_deeds : C8.Cal P w K mg base 3 "is_deeds" (spDeeds K) []) : FnOk P w K mg base CX0 4 f fd ["inlets", "thing"] (spWays K) := by
  refine F.ok sc_is_ways (fun vs H Q E h => ?_) (fun cdv A outer s H vs Q E hr h => ?_)
  · obtain ⟨_, _, _, _, rfl, _⟩ := h
    rfl
  · obtain ⟨n, a, b, ds, rfl, hS, hB, h0, hz, hd, q⟩ := h
    refine ⟨_, (pss_cons (ps_if (PW.pt (pw_or (pt_not (pt_val (C8.pe_c c_is_listed hr (by omega) rfl (pa_cons (pv 1) pa_nil)))) (pw_or1 (pt_not (pt_chain op_le op_le pe_int (pe_callB (r := Evl.rLenS K) call_len_seq (by rfl) T.b_len PySem.boot_len (pa_cons (pv 1) pa_nil)) (C8.pe_gc rfl T.g_MOST_WAYS)))))) (pss_one (ps_ret pe_bl)) pss_nil)
      (pss_one (ps_ret (pe_callB (r := rAll K) (cr_all rfl) (by rfl) T.b_all (by decide +kernel) (pa_cons (pe_lc (own := [("one", 2)]) (g := gName 2) (tt := tYes) rfl sc_is_ways.nd (pi_list (pv 1)) (blkOk_by (own := [("one", 2)]) (N := ["inlets", "thing", "one"]) (sc := defScope s_is_ways) (by decide +kernel)) (fun _ _ _ _ _ => pg_name (i := 2) sc_is_ways.nd rfl (Or.inl rfl)) (fun _ _ _ _ _ => pts_nil) (fun _ _ _ _ _ => (pe_and (C8.pe_c c_is_deeds hr (by omega) rfl (pa_cons (pv 0) (pa_cons (pv 2) pa_nil))) (pe_one (pe_cmpR op_gt (pe_callB (r := Evl.rLenS K) call_len_seq (by rfl) T.b_len PySem.boot_len (pa_cons (pv 2) pa_nil)) pe_int (nomark _)))))) pa_nil))))), ?_⟩
    refine ⟨_, rfl, _, _, true, rfl, tyx_l hS, ka_list, fun H1 e1 => ⟨true, rfl, ?_⟩⟩
    refine if_f rfl ⟨_, rfl, a, _, rfl, .inl (Evl.ex_l e1 hS), _, _, rfl, rfl, _, rfl, if_t (by show decide ((1 : Int) ≤ ((1 : Nat) : Int)) = true; decide) ⟨_, _, rfl, rfl, _, rfl, ?_⟩⟩
    refine if_f (by show (!decide (((1 : Nat) : Int) ≤ 4)) = false; decide) ?_
    unfold tNext
    dsimp only
    refine rt1 (cb1 (lc_lb (j := 2) ?_))
    refine ⟨_, rfl, a, rfl, ⟨_, Evl.ex_l e1 hS⟩, lc_map wk_list (fun i y H => y = .bl true) (fun _ _ e g => Evl.ex_l e g) (fun _ _ _ _ _ r => r) (Evl.ex_l e1 hS) (by show 1 < 1000000; decide) (fun i x H' Q' hi hx e' k => ?_)
      (fun D ys H' hl _ e' hD' hr' => all_true (n := 0) (fun H2 e2 => q H2 (e1.trans e2)) D ys e' hD' hr')⟩
    have e0 : i = 0 := by
      have : i < 1 := hi
      omega
    subst e0
    have ex : x = .ref b := (Option.some.inj hx).symm
    subst ex
    refine ⟨_, rfl, _, rfl, n, b, ds, rfl, (hB.ex e1).ex e', hz, hd, fun H2 e2 => ⟨true, rfl, iteT ⟨_, rfl, b, _, rfl, ((hB.ex e1).ex e').ex e2, _, _, rfl, rfl, ?_⟩⟩⟩
    dsimp only
    rw [decide_eq_true (by rw [List.length_map]; omega)]
    exact k _ _ e2 rfl
/-! is_way_numbers: zeros, of one way -/
def zeros (c : Nat) : List V := List.replicate c (.int 0)
def spWayN (K : PySem.W.Frag) : Sp := fun vs H Q _ => ∃ (a : Addr) (c : Nat) (lo hi : Int), vs = [.ref a, .int 1, .int lo, .int hi] ∧ SqT K H a (zeros c) ∧ lo ≤ c ∧ (c : Int) ≤ hi ∧ c ≤ 100 ∧ ∀ H', Ex H H' → Q (.bl true) H'
abbrev s_is_way_numbers : Stmt := top 54
theorem sc_is_way_numbers : FnScope ["thing", "ways", "least", "most", "one"] ["thing", "ways", "least", "most"] (defScope s_is_way_numbers) := ⟨rfl, rfl, rfl, by decide +kernel, rfl, by decide +kernel, by decide +kernel⟩
theorem zeros_get {c i : Nat} {x : V} (h : (zeros c)[i]? = some x) : x = .int 0 := by
  unfold zeros at h
  rw [List.getElem?_replicate] at h
  split at h
  · exact (Option.some.inj h).symm
  · cases h
theorem ok_is_way_numbers {f : Addr} {fd : FuncData} (F : Fun K "is_way_numbers" "is_way_numbers" s_is_way_numbers f fd) (T : Txt K mg CT CM) (c_is_listed : C8.Cal P w K mg base 1 "is_listed" (spListed K) []) (c_is_integer : C8.Cal P w K mg base 1 "is_integer" spInteger []) : FnOk P w K mg base CX0 2 f fd ["thing", "ways", "least", "most"] (spWayN K) := by
  refine F.ok sc_is_way_numbers (fun vs H Q E h => ?_) (fun cdv A outer s H vs Q E hr h => ?_)
  · obtain ⟨_, _, _, _, rfl, _⟩ := h
    rfl
  · obtain ⟨a, c, lo, hi, rfl, hS, hlo, hhi, hc, q⟩ := h
    have mz : (zeros c).length = c := List.length_replicate
    refine ⟨_, (pss_cons (ps_if (PW.pt (pw_or (pt_not (pt_val (C8.pe_c c_is_listed hr (by omega) rfl (pa_cons (pv 0) pa_nil)))) (pw_or1 (pt_not (pt_chain op_le op_le (pv 2) (pe_callB (r := Evl.rLenS K) call_len_seq (by rfl) T.b_len PySem.boot_len (pa_cons (pv 0) pa_nil)) (pv 3)))))) (pss_one (ps_ret pe_bl)) pss_nil)
      (pss_one (ps_ret (pe_callB (r := rAll K) (cr_all rfl) (by rfl) T.b_all (by decide +kernel) (pa_cons (pe_lc (own := [("one", 4)]) (g := gName 4) (tt := tYes) rfl sc_is_way_numbers.nd (pi_tup (pv 0)) (blkOk_by (own := [("one", 4)]) (N := ["thing", "ways", "least", "most", "one"]) (sc := defScope s_is_way_numbers) (by decide +kernel)) (fun _ _ _ _ _ => pg_name (i := 4) sc_is_way_numbers.nd rfl (Or.inl rfl)) (fun _ _ _ _ _ => pts_nil) (fun _ _ _ _ _ => (pe_and (C8.pe_c c_is_integer hr (by omega) rfl (pa_cons (pv 4) pa_nil)) (pe_one (pe_chain op_le op_lt pe_int (pv 4) (pv 1)))))) pa_nil))))), ?_⟩
    refine ⟨_, rfl, _, _, true, rfl, tyx_t hS, ka_tuple, fun H1 e1 => ⟨true, rfl, ?_⟩⟩
    refine if_f rfl ⟨_, rfl, _, rfl, a, _, rfl, .inr (Evl.ex_t e1 hS), _, _, rfl, rfl, _, rfl, if_t (decide_eq_true (by rw [mz]; exact hlo)) ⟨_, rfl, _, _, rfl, rfl, _, rfl, ?_⟩⟩
    refine if_f (by rw [decide_eq_true (by rw [mz]; exact hhi)]; rfl) ?_
    unfold tNext
    dsimp only
    refine rt1 (cb1 (lc_lb (j := 4) ?_))
    refine ⟨_, rfl, a, rfl, ⟨_, Evl.ex_t e1 hS⟩, lc_map wk_tup (fun i y H => y = .bl true) (fun _ _ e g => Evl.ex_t e g) (fun _ _ _ _ _ r => r) (Evl.ex_t e1 hS) (by rw [mz]; omega) (fun i x H' Q' hi hx e' k => ?_)
      (fun D ys H' hl _ e' hD' hr' => all_true (n := 0) (fun H2 e2 => q H2 (e1.trans e2)) D ys e' hD' hr')⟩
    have ex := zeros_get hx
    subst ex
    refine ⟨_, rfl, _, rfl, true, rfl, iteT ⟨_, rfl, _, _, rfl, rfl, _, rfl, if_t (by decide) ⟨_, rfl, _, _, rfl, rfl, ?_⟩⟩⟩
    exact k _ _ Ex.r rfl
end
end K28
end
section
set_option Elab.async false
set_option linter.all false
set_option maxRecDepth 100000
set_option maxHeartbeats 4000000
namespace K28
open PySem PySem.Spec PyProof.Rows L2
open Evl (Ex)
/-! makers -/
theorem ib_ : ¬ (("inlets" : Str) = "begin") := by decide +kernel
theorem iw_ : ¬ (("inlets" : Str) = "ways") := by decide +kernel
theorem bw_ : ¬ (("begin" : Str) = "ways") := by decide +kernel
def mfs (n : Nat) (vb vw : V) : List (Str × V) := [("inlets", .int (n : Int)), ("begin", vb), ("ways", vw)]
theorem mfs_put2 (n : Nat) (vb : V) : putF "begin" vb (putF "inlets" (.int (n : Int)) []) = [(("inlets" : Str), .int (n : Int)), (("begin" : Str), vb)] := by
  show (if ("inlets" : Str) = "begin" then _ else (("inlets" : Str), V.int (n : Int)) :: putF "begin" vb []) = _
  rw [if_neg ib_]
  rfl
theorem mfs_put (n : Nat) (vb vw : V) : putF "ways" vw (putF "begin" vb (putF "inlets" (.int (n : Int)) [])) = mfs n vb vw := by
  rw [mfs_put2]
  show (if ("inlets" : Str) = "ways" then _ else (("inlets" : Str), V.int (n : Int)) :: (if ("begin" : Str) = "ways" then _ else (("begin" : Str), vb) :: putF "ways" vw [])) = _
  rw [if_neg iw_, if_neg bw_]
  rfl
theorem mfs_inlets (n : Nat) (vb vw : V) : (mfs n vb vw).lookup ("inlets" : Str) = some (.int (n : Int)) := by rw [← mfs_put]; rw [lookup_putF, if_neg (by decide +kernel), lookup_putF, if_neg (by decide +kernel), lookup_putF, if_pos rfl]
theorem mfs_begin (n : Nat) (vb vw : V) : (mfs n vb vw).lookup ("begin" : Str) = some vb := by rw [← mfs_put]; rw [lookup_putF, if_neg (by decide +kernel), lookup_putF, if_pos rfl]
theorem mfs_ways (n : Nat) (vb vw : V) : (mfs n vb vw).lookup ("ways" : Str) = some vw := by rw [← mfs_put]; rw [lookup_putF, if_pos rfl]
theorem mfs_need (n : Nat) (vb vw : V) : (mfs n vb vw).lookup ("need" : Str) = none := by rw [← mfs_put]; rw [lookup_putF, if_neg (by decide +kernel), lookup_putF, if_neg (by decide +kernel), lookup_putF, if_neg (by decide +kernel)]; rfl
structure Mkr where
  n : Nat
  begin_ : List (Option Nat)
  way : List (Option Nat)
def MakAt (K : PySem.W.Frag) (CM : Addr) (H : Hp) (p : Addr) (m : Mkr) : Prop := ∃ dx vb vw, H p = some (.ins CM dx (mfs m.n vb vw)) ∧ Tp K H vb (deedsD m.begin_) ∧ Tp K H vw (.tuple [deedsD m.way])
theorem MakAt.kp {K : PySem.W.Frag} {CM : Addr} {H H' : Hp} {p : Addr} {b : Mkr} (e : Kp H H') (h : MakAt K CM H p b) : MakAt K CM H' p b := by
  obtain ⟨dx, vh, vl, h1, h2, h3⟩ := h
  exact ⟨dx, vh, vl, e _ _ h1 (fun _ z => by cases z), h2.kp e, h3.kp e⟩
theorem MakAt.ex {K : PySem.W.Frag} {CM : Addr} {H H' : Hp} {p : Addr} {b : Mkr} (e : Ex H H') (h : MakAt K CM H p b) : MakAt K CM H' p b := h.kp (.of e)
theorem Tp.way {K : PySem.W.Frag} {H : Hp} {v : V} {ds : List (Option Nat)} (h : Tp K H v (.tuple [deedsD ds])) : ∃ a b, v = .ref a ∧ SqT K H a [.ref b] ∧ SqT K H b (ds.map dv) := by
  cases h with
  | tup q r =>
    cases r with
    | cons h1 r =>
      cases r
      obtain ⟨b, rfl, hb⟩ := h1.deeds
      exact ⟨_, b, rfl, q, hb⟩
/-- what is taken at inlet k ahead of each give, and in all, with n before -/
def ahead (k : Nat) : List (Option Nat) → Int → List Int × Int
  | [], n => ([], n)
  | none :: r, n => (n :: (ahead k r n).1, (ahead k r n).2)
  | some j :: r, n => if j = k then ahead k r (n + 1) else ahead k r n
theorem ahead_snoc (k : Nat) : ∀ (ds : List (Option Nat)) (d : Option Nat) (n : Int), ahead k (ds ++ [d]) n =
    match d with
    | none => ((ahead k ds n).1 ++ [(ahead k ds n).2], (ahead k ds n).2)
    | some j => ((ahead k ds n).1, if j = k then (ahead k ds n).2 + 1 else (ahead k ds n).2)
  | [], none, n => rfl
  | [], some j, n => by
    simp only [List.nil_append, ahead]
    split <;> rfl
  | none :: r, d, n => by
    have ih := ahead_snoc k r d n
    simp only [List.cons_append, ahead, ih]
    cases d <;> rfl
  | some i :: r, d, n => by
    simp only [List.cons_append, ahead]
    split
    · exact ahead_snoc k r d (n + 1)
    · exact ahead_snoc k r d n
theorem ahead_len (k : Nat) : ∀ (ds : List (Option Nat)) (n : Int), (ahead k ds n).1.length ≤ ds.length
  | [], n => Nat.le_refl _
  | none :: r, n => by simp only [ahead, List.length_cons]; have := ahead_len k r n; omega
  | some j :: r, n => by
    simp only [ahead, List.length_cons]
    split
    · have := ahead_len k r (n + 1); omega
    · have := ahead_len k r n; omega
section
variable {P : Program} {w : World} {K : PySem.W.Frag} {mg : Str → Option Value} {base : Heap} {CT CM : Addr}
/-! is_course -/
def spCourse (K : PySem.W.Frag) (CM : Addr) : Sp := fun vs H Q _ => ∃ (p a a0 a1 : Addr) (m : Mkr) (c : Nat), vs = [.ref p, .ref a] ∧ MakAt K CM H p m ∧ SqT K H a [.ref a0, .ref a1] ∧ SqT K H a0 (zeros 0) ∧ SqT K H a1 (zeros c) ∧ 1 ≤ c ∧ c ≤ 2 ∧ ∀ H', Ex H H' → Q (.bl true) H'
abbrev s_is_course : Stmt := top 55
theorem sc_is_course : FnScope ["maker", "thing", "ways"] ["maker", "thing"] (defScope s_is_course) := ⟨rfl, rfl, rfl, by decide +kernel, rfl, by decide +kernel, by decide +kernel⟩
theorem ok_is_course {f : Addr} {fd : FuncData} (F : Fun K "is_course" "is_course" s_is_course f fd) (T : Txt K mg CT CM) (c_is_listed : C8.Cal P w K mg base 1 "is_listed" (spListed K) []) (c_is_way_numbers : C8.Cal P w K mg base 2 "is_way_numbers" (spWayN K) []) : FnOk P w K mg base CX0 3 f fd ["maker", "thing"] (spCourse K CM) := by
  refine F.ok sc_is_course (fun vs H Q E h => ?_) (fun cdv A outer s H vs Q E hr h => ?_)
  · obtain ⟨_, _, _, _, _, _, rfl, _⟩ := h
    rfl
  · obtain ⟨p, a, a0, a1, m, c, rfl, ⟨dx, vb, vw, hp, tb, tw⟩, hA, h0, h1, hc1, hc2, q⟩ := h
    obtain ⟨aw, bw, rfl, hw, _⟩ := tw.way
    refine ⟨_, (pss_cons (ps_if (PW.pt (pw_or (pt_not (pt_val (C8.pe_c c_is_listed hr (by omega) rfl (pa_cons (pv 1) pa_nil)))) (pw_or1 (pt_cmpR op_ne (pe_callB (r := Evl.rLenS K) call_len_seq (by rfl) T.b_len PySem.boot_len (pa_cons (pv 1) pa_nil)) pe_int (nomark _))))) (pss_one (ps_ret pe_bl)) pss_nil)
      (pss_cons (ps_set (i := 2) sc_is_course.nd rfl (Or.inl rfl) (pe_callB (r := Evl.rLenS K) call_len_seq (by rfl) T.b_len PySem.boot_len (pa_cons (pe_fldK (K := K) (pv 0) rfl rfl) pa_nil)))
      (pss_one (ps_ret (pe_and (C8.pe_c c_is_way_numbers hr (by omega) rfl (pa_cons (pe_ix (r := rIxT K) ix_tup (pv 1) pe_int (fun _ _ => rfl)) (pa_cons (pv 2) (pa_cons pe_int (pa_cons (C8.pe_gc rfl T.g_MOST_FIRST) pa_nil))))) (pe_one (C8.pe_c c_is_way_numbers hr (by omega) rfl (pa_cons (pe_ix (r := rIxT K) ix_tup (pv 1) pe_int (fun _ _ => rfl)) (pa_cons (pv 2) (pa_cons pe_int (pa_cons (C8.pe_gc rfl T.g_MOST_THEN) pa_nil))))))))))), ?_⟩
    refine ⟨_, rfl, _, _, true, rfl, tyx_t hA, ka_tuple, fun H1 e1 => ⟨true, rfl, ?_⟩⟩
    refine if_f rfl ⟨_, rfl, a, _, rfl, .inr (Evl.ex_t e1 hA), rfl, _, rfl, if_f (by show (!decide (V.int ((2 : Nat) : Int) = V.int 2)) = false; decide) ?_⟩
    refine ⟨_, rfl, p, CM, dx, _, _, rfl, e1 _ _ hp, T.clM, T.m_ways, mfs_ways _ _ _, aw, _, rfl, .inr (Evl.ex_t e1 hw), ?_⟩
    refine ⟨_, rfl, a, _, _, _, rfl, rfl, Evl.ex_t e1 hA, rfl, _, rfl, a0, 0, 0, 200, rfl, Evl.ex_t e1 h0, by omega, by omega, by omega, fun H2 e2 => ⟨true, rfl, iteT ?_⟩⟩
    have e3 := e1.trans e2
    exact ⟨_, rfl, a, _, _, _, rfl, rfl, Evl.ex_t e3 hA, rfl, _, rfl, a1, c, 1, 40, rfl, Evl.ex_t e3 h1, by omega, by omega, by omega, fun H4 e4 => q _ (e3.trans e4)⟩
/-! takes_ahead -/
def spTakes (K : PySem.W.Frag) : Sp := fun vs H Q _ => ∃ (a : Addr) (ds : List (Option Nat)) (k : Nat), vs = [.ref a, .int (k : Int)] ∧ H a = some (.lst (ds.map dv)) ∧ ds.length ≤ 100000 ∧
  ∀ (p l : Addr) (H' : Hp), Ex H H' → H' p = some (.tup [.ref l, .int (ahead k ds 0).2]) → H' l = some (.lst ((ahead k ds 0).1.map V.int)) → Q (.ref p) H'
abbrev s_takes_ahead : Stmt := top 56
theorem sc_takes_ahead : FnScope ["deeds", "inlet", "told", "taken", "deed"] ["deeds", "inlet"] (defScope s_takes_ahead) := ⟨rfl, rfl, rfl, by decide +kernel, rfl, by decide +kernel, by decide +kernel⟩
theorem ok_takes_ahead {f : Addr} {fd : FuncData} (F : Fun K "takes_ahead" "takes_ahead" s_takes_ahead f fd) (T : Txt K mg CT CM) : FnOk P w K mg base CX0 1 f fd ["deeds", "inlet"] (spTakes K) := by
  refine F.ok sc_takes_ahead (fun vs H Q E h => ?_) (fun cdv A outer s H vs Q E hr h => ?_)
  · obtain ⟨_, _, _, rfl, _⟩ := h
    rfl
  · obtain ⟨a, ds, k, rfl, hA, hz, q⟩ := h
    refine ⟨_, (pss_cons (ps_set (i := 2) sc_takes_ahead.nd rfl (Or.inl rfl) (pe_lst pa_nil))
      (pss_cons (ps_set (i := 3) sc_takes_ahead.nd rfl (Or.inl rfl) pe_int)
      (pss_cons (ps_for PassesOwn.never rfl (pi_list (pv 0)) (pg_name (i := 4) sc_takes_ahead.nd rfl (Or.inl rfl)) (pss_one (ps_if (pt_cmpR op_eq (pv 4) (C8.pe_gc rfl T.g_GIVE) (nomark _)) (pss_one (ps_expr (pe_bm PySem.F.plainAttrs_list PySem.F.slot_list_append PySem.F.type_list_append mt_append (pv 2) (pa_cons (pv 3) pa_nil)))) (pss_one (ps_if (pt_cmpR op_eq (pv 4) (pv 1) (nomark _)) (pss_one (ps_aug (i := 3) sc_takes_ahead.nd rfl (Or.inl rfl) pe_int ip_add)) pss_nil)))))
      (pss_one (ps_ret (pe_tup (pa_cons (pv 2) (pa_cons (pv 3) pa_nil)))))))), ?_⟩
    refine ⟨Nat.zero_le _, fun l hl => ?_⟩
    have e0 : Ex H (upd H l (.lst [])) := Evl.Ex.new hl
    dsimp only
    refine sq1 (as1 ?_)
    unfold tC
    dsimp only
    refine sq1 (fr_fb ?_)
    refine ⟨_, rfl, a, rfl, ⟨_, sq_l (e0 _ _ hA)⟩, fb_go wk_list (fun i σ' H' => ∃ d : Option V, σ' = [some (.ref a), some (.int (k : Int)), some (.ref l), some (.int (ahead k (ds.take i) 0).2), d] ∧ Ex H H' ∧ H' l = some (.lst ((ahead k (ds.take i) 0).1.map V.int)))
      ⟨none, rfl, e0, upd_same⟩ (fun i σ' H' _ ⟨_, _, e, _⟩ => sq_l (e _ _ hA)) ?_ ?_⟩
    · rintro i x σ' H' hi hx ⟨d0, rfl, e, hL⟩
      obtain ⟨d, hd, rfl⟩ := get_map hx
      have hi' : i < ds.length := (List.getElem?_eq_some_iff.mp hd).1
      have et : ds.take (i + 1) = ds.take i ++ [d] := by rw [List.take_succ, hd]; rfl
      have hs := ahead_snoc k (ds.take i) d 0
      rw [← et] at hs
      have hlen : ((ahead k (ds.take i) 0).1.map V.int).length < 100000 := by
        rw [List.length_map]
        have := ahead_len k (ds.take i) 0
        rw [List.length_take] at this
        omega
      have nla : l ≠ a := fun z => by rw [← z, hl] at hA; cases hA
      cases d with
      | none =>
        refine ⟨_, rfl, rfl, _, rfl, if_t (by decide) ?_⟩
        refine ⟨_, rfl, .inl ⟨rfl, _, sq_l hL⟩, _, rfl, l, _, _, rfl, rfl, hL, Evl.sz_lt hlen, ?_⟩
        refine ⟨some (dv none), ?_, Evl.Ex.mut e hl, ?_⟩
        · rw [hs]; rfl
        · rw [upd_same, hs]
          dsimp only
          rw [List.map_append]
          rfl
      | some j =>
        refine ⟨_, rfl, rfl, _, rfl, if_f (by rw [decide_eq_false (fun z => by cases z)]) ?_⟩
        refine ⟨_, rfl, _, rfl, rfl, _, rfl, ?_⟩
        by_cases c : j = k
        · refine if_t (by subst c; exact decide_eq_true rfl) ?_
          refine ⟨_, rfl, _, _, rfl, rfl, ?_⟩
          refine ⟨some (dv (some j)), ?_, e, ?_⟩
          · rw [hs]
            dsimp only
            rw [if_pos c]
            rfl
          · rw [hs]; exact hL
        · refine if_f (decide_eq_false fun z => c (by have := V.int.inj z; omega)) ?_
          refine ⟨some (dv (some j)), ?_, e, ?_⟩
          · rw [hs]
            dsimp only
            rw [if_neg c]
            rfl
          · rw [hs]; exact hL
    · rintro σ' H' ⟨d, rfl, e, hL⟩
      rw [List.length_map, List.take_length] at hL ⊢
      exact ⟨_, rfl, _, rfl, (by show 2 ≤ sizeLine; decide), fun p hp => q p l _ (e.trans (Evl.Ex.new hp)) upd_same (Evl.Ex.new hp _ _ hL)⟩
/-! check_inlet -/
def spInlet (K : PySem.W.Frag) (CM : Addr) : Sp := fun vs H Q _ => ∃ (p : Addr) (m : Mkr) (k : Nat), vs = [.ref p, .int (k : Int)] ∧ MakAt K CM H p m ∧ k < m.n ∧ Q .non H
abbrev s_check_inlet : Stmt := top 57
theorem sc_check_inlet : FnScope ["maker", "inlet"] ["maker", "inlet"] (defScope s_check_inlet) := ⟨rfl, rfl, rfl, by decide +kernel, rfl, by decide +kernel, by decide +kernel⟩
theorem ok_check_inlet {f : Addr} {fd : FuncData} (F : Fun K "check_inlet" "check_inlet" s_check_inlet f fd) (T : Txt K mg CT CM) (c_is_integer : C8.Cal P w K mg base 1 "is_integer" spInteger []) : FnOk P w K mg base CX0 2 f fd ["maker", "inlet"] (spInlet K CM) := by
  refine F.ok sc_check_inlet (fun vs H Q E h => ?_) (fun cdv A outer s H vs Q E hr h => ?_)
  · obtain ⟨_, _, _, rfl, _⟩ := h
    rfl
  · obtain ⟨p, m, k, rfl, ⟨dx, vb, vw, hp, tb, tw⟩, hk, q⟩ := h
    refine ⟨_, (pss_one (ps_if (PW.pt (pw_or (pt_not (pt_val (C8.pe_c c_is_integer hr (by omega) rfl (pa_cons (pv 1) pa_nil)))) (pw_or1 (pt_not (pt_chain op_le op_lt pe_int (pv 1) (pe_fldK (K := K) (pv 0) rfl rfl)))))) (pss_one ps_never) pss_nil)), ?_⟩
    refine ⟨_, rfl, _, rfl, true, rfl, if_f rfl ?_⟩
    refine ⟨_, rfl, _, _, rfl, rfl, _, rfl, if_t (decide_eq_true (show (0 : Int) ≤ (k : Int) by omega)) ⟨_, rfl, p, CM, dx, _, _, rfl, hp, T.clM, T.m_inlets, mfs_inlets _ _ _, _, _, rfl, rfl, _, rfl, ?_⟩⟩
    refine if_f (by rw [decide_eq_true (show (k : Int) < (m.n : Int) by omega)]; rfl) ?_
    exact q
end
end K28
end
section
set_option Elab.async false
set_option linter.all false
set_option maxRecDepth 100000
set_option maxHeartbeats 4000000
namespace K28
open PySem PySem.Spec PyProof.Rows L2
open Evl (Ex)
def rep (c : Nat) (ds : List (Option Nat)) : List (Option Nat) := (List.replicate c ds).flatten
theorem rep_succ (c : Nat) (ds : List (Option Nat)) : rep (c + 1) ds = rep c ds ++ ds := by
  unfold rep
  rw [List.replicate_succ', List.flatten_append]
  simp
theorem rep_len (c : Nat) (ds : List (Option Nat)) : (rep c ds).length = c * ds.length := by
  unfold rep
  simp
/-- what a maker's need at an inlet is, by going through its deeds, its way c times over -/
def needRaw (m : Mkr) (k c : Nat) : List Int × List Int × Int :=
  let a := ahead k m.begin_ 0
  let b := ahead k (rep c m.way) 0
  if b.1 = [] then (a.1, [], 0) else (a.1, b.1.map (fun z => a.2 + z), b.2)
theorem made_ex {C : Addr} {H1 H' : Hp} {x dx : Addr} (nx : H1 x = none) (nd : H1 dx = none) (k : ∀ a o, a ≠ x → (upd (upd H1 dx (.own x)) x (.ins C dx [])) a = some o → H' a = some o) : Ex H1 H' := fun a o h => by
  have n1 : a ≠ x := fun z => by rw [z, nx] at h; cases h
  have n2 : a ≠ dx := fun z => by rw [z, nd] at h; cases h
  exact k a o n1 (by rw [upd_ne n1, upd_ne n2]; exact h)
theorem made_ex0 {C : Addr} {H1 : Hp} {x dx : Addr} (nx : H1 x = none) (nd : H1 dx = none) : Ex H1 (upd (upd H1 dx (.own x)) x (.ins C dx [])) := made_ex nx nd fun _ _ _ h => h
theorem sqA_upd {K : PySem.W.Frag} {H : Hp} {p C dx a : Addr} {fs : List (Str × V)} {o : HO} {xs : List V} (hp : H p = some (.ins C dx fs)) (h : SqA K H a xs) : SqA K (upd H p o) a xs := by
  rcases h with ((h | ⟨u, h⟩) | h) | ((h | ⟨u, h⟩) | h)
  · exact .inl (.inl (.inl (by rw [upd_ne (fun z => by rw [z, hp] at h; cases h)]; exact h)))
  · exact .inl (.inl (.inr ⟨u, by rw [upd_ne (fun z => by rw [z, hp] at h; cases h)]; exact h⟩))
  · exact .inl (.inr h)
  · exact .inr (.inl (.inl (by rw [upd_ne (fun z => by rw [z, hp] at h; cases h)]; exact h)))
  · exact .inr (.inl (.inr ⟨u, by rw [upd_ne (fun z => by rw [z, hp] at h; cases h)]; exact h⟩))
  · exact .inr (.inr h)
theorem lp_deeds {K : PySem.W.Frag} {H : Hp} {a : Addr} {ds : List (Option Nat)} (h : SqA K H a (ds.map dv)) (hz : ds.length ≤ 100000) : Lp K 1 H (.ref a) (deedsD ds) := by
  refine .inr ⟨a, _, _, rfl, rfl, h, by rw [List.length_map, List.length_map], by rw [List.length_map]; exact hz, fun i x hx => ?_⟩
  obtain ⟨z, hz, rfl⟩ := get_map hx
  refine ⟨dd z, by rw [List.getElem?_map, hz]; rfl, ?_⟩
  cases z with
  | none => exact .inr ⟨_, rfl, rfl⟩
  | some k => exact .inl ⟨_, rfl, rfl⟩
section
variable {P : Program} {w : World} {K : PySem.W.Frag} {mg : Str → Option Value} {base : Heap} {CT CM : Addr}
/-! need_on -/
def spNeedOn (K : PySem.W.Frag) (CT CM : Addr) : Sp := fun vs H Q _ => ∃ (p a a0 a1 : Addr) (m : Mkr) (k c : Nat), vs = [.ref p, .int (k : Int), .ref a] ∧ MakAt K CM H p m ∧ SqT K H a [.ref a0, .ref a1] ∧ SqT K H a0 (zeros 0) ∧ SqT K H a1 (zeros c) ∧ c ≤ 2 ∧
  m.begin_.length ≤ 600 ∧ m.way.length ≤ 600 ∧ Good (needRaw m k c).1 (needRaw m k c).2.1 (needRaw m k c).2.2 ∧ SzR (needRaw m k c) ∧
  ∀ (t : Addr) (b : List Int × List Int × Int) (H' : Hp), Ex H H' → Plain (needRaw m k c) b → TabAt K CT H' t b → Q (.ref t) H'
abbrev s_need_on : Stmt := top 58
theorem sc_need_on : FnScope ["maker", "inlet", "course", "deeds", "number", "head", "taken", "again", "loop", "rise", "more"] ["maker", "inlet", "course"] (defScope s_need_on) := ⟨rfl, rfl, rfl, by decide +kernel, rfl, by decide +kernel, by decide +kernel⟩
theorem ok_need_on {f : Addr} {fd : FuncData} {ev : Addr} (F : Fun K "need_on" "need_on" s_need_on f fd) (T : Txt K mg CT CM) (c_takes_ahead : C8.Cal P w K mg base 1 "takes_ahead" (spTakes K) []) (he : ∀ H, SqT K H ev [])
    (m_Table1 : C8.Mak P w K mg base 5 "Table" CT (spTable K CT) [.ref ev, .int 0]) (m_Table3 : C8.Mak P w K mg base 5 "Table" CT (spTable K CT) []) : FnOk P w K mg base CX0 7 f fd ["maker", "inlet", "course"] (spNeedOn K CT CM) := by
  refine F.ok sc_need_on (fun vs H Q E h => ?_) (fun cdv A outer s H vs Q E hr h => ?_)
  · obtain ⟨_, _, _, _, _, _, _, rfl, _⟩ := h
    rfl
  · obtain ⟨p, a, a0, a1, m, k, c, rfl, ⟨dx, vb, vw, hp, tb, tw⟩, hA, h0, h1, hc, zb, zw, g, hz, q⟩ := h
    obtain ⟨ab, rfl, hB⟩ := tb.deeds
    obtain ⟨aw, bw, rfl, hW, hw⟩ := tw.way
    have mz : (zeros c).length = c := List.length_replicate
    have mb : (m.begin_.map dv).length = m.begin_.length := List.length_map _
    have mw : (m.way.map dv).length = m.way.length := List.length_map _
    refine ⟨_, (pss_cons (ps_set (i := 3) sc_need_on.nd rfl (Or.inl rfl) (pe_callTy (r := Evl.rListS K) call_list_of (by rfl) T.b_list (by decide +kernel) (pa_cons (pe_fldK (K := K) (pv 0) rfl rfl) pa_nil)))
      (pss_cons (ps_for PassesOwn.never rfl (pi_tup (pe_ix (r := rIxT K) ix_tup (pv 2) pe_int (fun _ _ => rfl))) (pg_name (i := 4) sc_need_on.nd rfl (Or.inl rfl)) (pss_one (ps_set (i := 3) sc_need_on.nd rfl (Or.inl rfl) (pe_op op_cat (pv 3) (pe_callTy (r := Evl.rListS K) call_list_of (by rfl) T.b_list (by decide +kernel) (pa_cons (pe_ix (r := rIxT K) ix_tup (pe_fldK (K := K) (pv 0) rfl rfl) (pv 4) (fun _ _ => rfl)) pa_nil))))))
      (pss_cons (ps_asg (C8.pe_c c_takes_ahead hr (by omega) rfl (pa_cons (pv 3) (pa_cons (pv 1) pa_nil))) (pg_tup rfl (pgs_cons (pg_name (i := 5) sc_need_on.nd rfl (Or.inl rfl)) (pgs_cons (pg_name (i := 6) sc_need_on.nd rfl (Or.inr rfl)) pgs_nil))))
      (pss_cons (ps_set (i := 7) sc_need_on.nd rfl (Or.inl rfl) (pe_lst pa_nil))
      (pss_cons (ps_for PassesOwn.never rfl (pi_tup (pe_ix (r := rIxT K) ix_tup (pv 2) pe_int (fun _ _ => rfl))) (pg_name (i := 4) sc_need_on.nd rfl (Or.inl rfl)) (pss_one (ps_set (i := 7) sc_need_on.nd rfl (Or.inl rfl) (pe_op op_cat (pv 7) (pe_callTy (r := Evl.rListS K) call_list_of (by rfl) T.b_list (by decide +kernel) (pa_cons (pe_ix (r := rIxT K) ix_tup (pe_fldK (K := K) (pv 0) rfl rfl) (pv 4) (fun _ _ => rfl)) pa_nil))))))
      (pss_cons (ps_asg (C8.pe_c c_takes_ahead hr (by omega) rfl (pa_cons (pv 7) (pa_cons (pv 1) pa_nil))) (pg_tup rfl (pgs_cons (pg_name (i := 8) sc_need_on.nd rfl (Or.inl rfl)) (pgs_cons (pg_name (i := 9) sc_need_on.nd rfl (Or.inl rfl)) pgs_nil))))
      (pss_cons (ps_if (pt_cmpR op_eq (pe_callB (r := Evl.rLenS K) call_len_seq (by rfl) T.b_len PySem.boot_len (pa_cons (pv 8) pa_nil)) pe_int (nomark _)) (pss_one (ps_ret (C8.pe_mk m_Table1 hr (by omega) rfl (pa_cons (pv 5) pa_nil)))) pss_nil)
      (pss_one (ps_ret (C8.pe_mk m_Table3 hr (by omega) rfl (pa_cons (pv 5) (pa_cons (pe_lc (own := [("more", 10)]) (g := gName 10) (tt := tYes) rfl sc_need_on.nd (pi_list (pv 8)) (blkOk_by (own := [("more", 10)]) (N := ["maker", "inlet", "course", "deeds", "number", "head", "taken", "again", "loop", "rise", "more"]) (sc := defScope s_need_on) (by decide +kernel)) (fun _ _ _ _ _ => pg_name (i := 10) sc_need_on.nd rfl (Or.inl rfl)) (fun _ _ _ _ _ => pts_nil) (fun _ _ _ _ _ => (pe_op op_add (pv 6) (pv 10)))) (pa_cons (pv 9) pa_nil))))))))))))), ?_⟩
    refine ⟨_, rfl, p, CM, dx, _, _, rfl, hp, T.clM, T.m_begin, mfs_begin _ _ _, ab, _, rfl, .inr hB, fun l hl => ?_⟩
    have e1 : Ex H (upd H l (.lst (m.begin_.map dv))) := Evl.Ex.new hl
    have hl1 : upd H l (.lst (m.begin_.map dv)) l = some (.lst (m.begin_.map dv)) := upd_same
    generalize upd H l (.lst (m.begin_.map dv)) = H1 at *
    try dsimp only
    refine gn1 ?_
    try dsimp only
    refine sq1 (fr_fb ?_)
    refine ⟨_, rfl, a, _, _, _, rfl, rfl, Evl.ex_t e1 hA, rfl, a0, rfl, ⟨_, Evl.ex_t e1 h0⟩, fb_go (wk_tup (xs := zeros 0)) (fun i σ' H' => σ' = [some (.ref p), some (.int (k : Int)), some (.ref a), some (.ref l), none, none, none, none, none, none, none] ∧ H' = H1) ⟨rfl, rfl⟩
      (fun i σ' H' _ ⟨_, e⟩ => by rw [e]; exact Evl.ex_t e1 h0) (fun i x σ' H' hi => by cases hi) ?_⟩
    rintro σ' H' ⟨rfl, rfl⟩
    try dsimp only
    refine sq1 ?_
    refine ⟨_, rfl, _, rfl, l, m.begin_, k, rfl, hl1, by omega, fun pt lt H2 e2 ht hlt => ?_⟩
    refine ⟨pt, _, rfl, sq_t ht, rfl, _, _, rfl, _, _, rfl, rfl, ?_⟩
    try dsimp only
    refine sq1 ⟨Nat.zero_le _, fun l2 hl2 => ?_⟩
    have e3 : Ex H2 (upd H2 l2 (.lst [])) := Evl.Ex.new hl2
    have hl3 : upd H2 l2 (.lst []) l2 = some (.lst (([] : List (Option Nat)).map dv)) := upd_same
    generalize upd H2 l2 (.lst []) = H3 at *
    have E3 := e1.trans (e2.trans e3)
    refine gn1 ?_
    try dsimp only
    refine sq1 (fr_fb ?_)
    refine ⟨_, rfl, a, _, _, _, rfl, rfl, Evl.ex_t E3 hA, rfl, a1, rfl, ⟨_, Evl.ex_t E3 h1⟩, fb_go (wk_tup (xs := zeros c)) (fun i σ' H' => ∃ (n0 : Option V) (l' : Addr), σ' = [some (.ref p), some (.int (k : Int)), some (.ref a), some (.ref l), n0, some (.ref lt), some (.int (ahead k m.begin_ 0).2), some (.ref l'), none, none, none] ∧ Ex H3 H' ∧ H' l' = some (.lst ((rep i m.way).map dv))) ⟨none, l2, rfl, Ex.r, hl3⟩
      (fun i σ' H' _ ⟨_, _, _, e, _⟩ => Evl.ex_t (E3.trans e) h1) ?_ ?_⟩
    · rintro i x σ' H' hi hx ⟨n0, l', rfl, e4, hl'⟩
      have ex := zeros_get hx
      subst ex
      rw [mz] at hi
      have E4 := E3.trans e4
      refine ⟨_, rfl, _, rfl, p, CM, dx, _, _, rfl, E4 _ _ hp, T.clM, T.m_ways, mfs_ways _ _ _, _, rfl, aw, _, _, _, rfl, rfl, Evl.ex_t E4 hW, rfl, bw, _, rfl, .inr (Evl.ex_t E4 hw), fun l4 hl4 => ?_⟩
      have e5 : Ex H' (upd H' l4 (.lst (m.way.map dv))) := Evl.Ex.new hl4
      have hl5 : upd H' l4 (.lst (m.way.map dv)) l4 = some (.lst (m.way.map dv)) := upd_same
      generalize upd H' l4 (.lst (m.way.map dv)) = H5 at *
      refine ⟨l', l4, _, _, rfl, rfl, e5 _ _ hl', hl5, ?_, fun p6 hp6 => ?_⟩
      · rw [List.length_map, rep_len, mw]
        have : i * m.way.length ≤ 2 * 600 := Nat.mul_le_mul (by omega) zw
        exact Evl.sz_of (by omega)
      · refine ⟨_, p6, rfl, e4.trans (e5.trans (Evl.Ex.new hp6)), ?_⟩
        rw [upd_same, rep_succ, List.map_append]
    · rintro σ' H4 ⟨n0, l', rfl, e4, hl'⟩
      rw [mz] at hl'
      have E4 := E3.trans e4
      try dsimp only
      refine sq1 ?_
      refine ⟨_, rfl, _, rfl, l', rep c m.way, k, rfl, hl', ?_, fun pt2 lt2 H5 e5 ht2 hlt2 => ?_⟩
      · rw [rep_len]
        have : c * m.way.length ≤ 2 * 600 := Nat.mul_le_mul hc zw
        omega
      refine ⟨pt2, _, rfl, sq_t ht2, rfl, _, _, rfl, _, _, rfl, rfl, ?_⟩
      have hlt5 := e5 _ _ (e4 _ _ (e3 _ _ hlt))
      have E5 := E4.trans e5
      try dsimp only
      refine sq1 ?_
      refine ⟨_, rfl, lt2, _, rfl, .inl (sq_l hlt2), rfl, _, rfl, ?_⟩
      by_cases c0 : (ahead k (rep c m.way) 0).1 = []
      · have ex : needRaw m k c = ((ahead k m.begin_ 0).1, [], 0) := by
          unfold needRaw
          try dsimp only
          rw [if_pos c0]
        rw [ex] at g hz q
        refine if_t (by rw [c0]; rfl) ?_
        refine ⟨_, rfl, fun x dx' nx nd ne => ?_⟩
        have em := made_ex0 (C := CT) nx nd
        refine ⟨x, dx', lt, ev, _, [], 0, rfl, upd_same, .inl (sq_l (em _ _ hlt5)), .inr (he _), hz, g, fun b H' kk hb ht => ⟨rfl, ?_⟩⟩
        exact q x b H' (E5.trans (made_ex nx nd kk)) hb ht
      · have ex : needRaw m k c = ((ahead k m.begin_ 0).1, (ahead k (rep c m.way) 0).1.map (fun z => (ahead k m.begin_ 0).2 + z), (ahead k (rep c m.way) 0).2) := by
          unfold needRaw
          try dsimp only
          rw [if_neg c0]
        rw [ex] at g hz q
        have hzl : (ahead k (rep c m.way) 0).1.length ≤ 100000 := by have := hz.2.1; dsimp only at this; rw [List.length_map] at this; exact this
        have hml : ((ahead k (rep c m.way) 0).1.map V.int).length = (ahead k (rep c m.way) 0).1.length := List.length_map _
        refine if_f ?_ ?_
        · rw [dInt]
          refine decide_eq_false fun z => c0 (List.eq_nil_of_length_eq_zero ?_)
          rw [hml] at z
          omega
        unfold tNext
        try dsimp only
        refine ⟨_, rfl, ?_⟩
        refine cs1 (lc_lb (j := 10) ?_)
        refine ⟨_, rfl, lt2, rfl, ⟨_, sq_l hlt2⟩, lc_map wk_list (fun i y H => ∃ z, (ahead k (rep c m.way) 0).1[i]? = some z ∧ y = .int ((ahead k m.begin_ 0).2 + z)) (fun _ _ e g => Evl.ex_l e g) (fun _ _ _ _ _ r => r) (sq_l hlt2) (by rw [hml]; omega) (fun i x H' Q' hi hx e' kk => ?_) ?_⟩
        · obtain ⟨z, hz, rfl⟩ := get_map hx
          exact ⟨_, rfl, _, rfl, _, _, rfl, rfl, kk _ _ Ex.r ⟨z, hz, rfl⟩⟩
        · refine fun D ys H6 hl6 hDn e6 hD hr' => ?_
          have ey : ys = ((ahead k (rep c m.way) 0).1.map fun z => (ahead k m.begin_ 0).2 + z).map V.int := by
            rw [List.map_map]
            exact map_of (f := V.int ∘ fun z => (ahead k m.begin_ 0).2 + z) (by rw [hl6, hml]) fun i y hy => hr' i y hy
          refine ⟨_, rfl, fun x dx' nx nd ne => ?_⟩
          have em := made_ex0 (C := CT) nx nd
          rw [ey] at hD
          refine ⟨x, dx', lt, D, _, _, _, rfl, upd_same, .inl (sq_l (em _ _ (e6 _ _ hlt5))), .inl (sq_l (em _ _ hD)), hz, g, fun b H' kk hb ht => ⟨rfl, ?_⟩⟩
          exact q x b H' (E5.trans (e6.trans (made_ex nx nd kk))) hb ht
end
end K28
end
section
set_option Elab.async false
set_option linter.all false
set_option maxRecDepth 100000
set_option maxHeartbeats 4000000
namespace K28
open PySem PySem.Spec PyProof.Rows L2
open Evl (Ex)
section
variable {P : Program} {w : World} {K : PySem.W.Frag} {mg : Str → Option Value} {base : Heap} {CT CM : Addr}
/-! Maker.__init__ -/
def spMaker (K : PySem.W.Frag) (CM : Addr) : Sp := fun vs H Q _ => ∃ (p dx b ws wy : Addr) (m : Mkr), vs = [.ref p, .int (m.n : Int), .ref b, .ref ws] ∧ H p = some (.ins CM dx []) ∧ SqA K H b (m.begin_.map dv) ∧ H ws = some (.lst [.ref wy]) ∧ SqA K H wy (m.way.map dv) ∧
  1 ≤ m.n ∧ m.n ≤ 3 ∧ DOk m.n m.begin_ ∧ DOk m.n m.way ∧ m.begin_.length ≤ 600 ∧ 0 < m.way.length ∧ m.way.length ≤ 600 ∧
  ∀ H', (∀ a o, a ≠ p → H a = some o → H' a = some o) → MakAt K CM H' p m → Q .non H'
abbrev s_Maker_init : Stmt := inClass (top 59) 0
theorem sc_Maker_init : FnScope ["self", "inlets", "begin", "ways", "most", "way"] ["self", "inlets", "begin", "ways"] (defScope s_Maker_init) := ⟨rfl, rfl, rfl, by decide +kernel, rfl, by decide +kernel, by decide +kernel⟩
theorem ok_Maker_init {f : Addr} {fd : FuncData} (F : Fun K "__init__" "Maker.__init__" s_Maker_init f fd) (T : Txt K mg CT CM) (c_is_integer : C8.Cal P w K mg base 1 "is_integer" spInteger []) (c_is_deeds : C8.Cal P w K mg base 3 "is_deeds" (spDeeds K) [])
    (c_is_ways : C8.Cal P w K mg base 4 "is_ways" (spWays K) []) (c_deep : C8.Cal P w K mg base 4 "deep" (spDeep K 2) []) : FnOk P w K mg base CX0 5 f fd ["self", "inlets", "begin", "ways"] (spMaker K CM) := by
  refine F.ok sc_Maker_init (fun vs H Q E h => ?_) (fun cdv A outer s H vs Q E hr h => ?_)
  · obtain ⟨_, _, _, _, _, _, rfl, _⟩ := h
    rfl
  · obtain ⟨p, dx, b, ws, wy, m, rfl, hp, hB, hW, hY, n1, n3, db, dw, zb, w0, zw, q⟩ := h
    have mb : (m.begin_.map dv).length = m.begin_.length := List.length_map _
    have mw : (m.way.map dv).length = m.way.length := List.length_map _
    refine ⟨_, (pss_cons (ps_if (PW.pt (pw_or (pt_not (pt_val (C8.pe_c c_is_integer hr (by omega) rfl (pa_cons (pv 1) pa_nil)))) (pw_or1 (pt_not (pt_chain op_le op_le pe_int (pv 1) (C8.pe_gc rfl T.g_MOST_INLETS)))))) (pss_one ps_never) pss_nil)
      (pss_cons (ps_if (pt_not (pt_val (C8.pe_c c_is_deeds hr (by omega) rfl (pa_cons (pv 1) (pa_cons (pv 2) pa_nil))))) (pss_one ps_never) pss_nil)
      (pss_cons (ps_if (pt_not (pt_val (C8.pe_c c_is_ways hr (by omega) rfl (pa_cons (pv 1) (pa_cons (pv 3) pa_nil))))) (pss_one ps_never) pss_nil)
      (pss_cons (ps_set (i := 4) sc_Maker_init.nd rfl (Or.inr rfl) (pe_ifExp (pt_cmpR op_eq (pe_callB (r := Evl.rLenS K) call_len_seq (by rfl) T.b_len PySem.boot_len (pa_cons (pv 3) pa_nil)) pe_int (nomark _)) (C8.pe_gc rfl T.g_MOST_DEEDS) (C8.pe_gc rfl T.g_MOST_DEEDS_EACH)))
      (pss_cons (ps_if (PW.pt (pw_or (pt_cmpR op_gt (pe_callB (r := Evl.rLenS K) call_len_seq (by rfl) T.b_len PySem.boot_len (pa_cons (pv 2) pa_nil)) (C8.pe_gc rfl T.g_MOST_DEEDS) (nomark _)) (pw_or1 (pt_val (pe_callB (r := rAny K) (cr_any rfl) (by rfl) T.b_any (by decide +kernel) (pa_cons (pe_lc (own := [("way", 5)]) (g := gName 5) (tt := tYes) rfl sc_Maker_init.nd (pi_list (pv 3)) (blkOk_by (own := [("way", 5)]) (N := ["self", "inlets", "begin", "ways", "most", "way"]) (sc := defScope s_Maker_init) (by decide +kernel)) (fun _ _ _ _ _ => pg_name (i := 5) sc_Maker_init.nd rfl (Or.inl rfl)) (fun _ _ _ _ _ => pts_nil) (fun _ _ _ _ _ => (pe_cmpR op_gt (pe_callB (r := Evl.rLenS K) call_len_seq (by rfl) T.b_len PySem.boot_len (pa_cons (pv 5) pa_nil)) (pv 4) (nomark _)))) pa_nil)))))) (pss_one ps_never) pss_nil)
      (pss_cons (ps_fld (pv 0) (pv 1) rfl)
      (pss_cons (ps_fld (pv 0) (C8.pe_c c_deep hr (by omega) rfl (pa_cons (pv 2) pa_nil)) rfl)
      (pss_one (ps_fld (pv 0) (C8.pe_c c_deep hr (by omega) rfl (pa_cons (pv 3) pa_nil)) rfl))))))))), ?_⟩
    refine ⟨_, rfl, _, rfl, true, rfl, if_f rfl ?_⟩
    refine ⟨_, rfl, _, _, rfl, rfl, _, rfl, if_t (decide_eq_true (show (1 : Int) ≤ (m.n : Int) by omega)) ⟨_, _, rfl, rfl, _, rfl, ?_⟩⟩
    refine if_f (by rw [decide_eq_true (show (m.n : Int) ≤ 3 by omega)]; rfl) ?_
    refine ⟨_, rfl, _, rfl, m.n, b, m.begin_, rfl, hB, by omega, db, fun H1 e1 => ⟨true, rfl, if_f rfl ?_⟩⟩
    refine ⟨_, rfl, _, rfl, m.n, ws, wy, m.way, rfl, sq_l (e1 _ _ hW), hY.ex e1, w0, by omega, dw, fun H2 e2 => ⟨true, rfl, if_f rfl ?_⟩⟩
    have E2 := e1.trans e2
    refine ⟨_, rfl, ws, _, rfl, .inl (sq_l (E2 _ _ hW)), rfl, _, rfl, if_t (by show decide (V.int ((1 : Nat) : Int) = V.int 1) = true; decide) ?_⟩
    refine ⟨_, rfl, b, _, rfl, hB.ex E2, _, _, rfl, rfl, _, rfl, if_f (decide_eq_false (by rw [mb]; omega)) ?_⟩
    refine tb1 (cb1 (lc_lb (j := 5) ?_))
    refine ⟨_, rfl, ws, rfl, ⟨_, sq_l (E2 _ _ hW)⟩, lc_map wk_list (fun i y H => y = .bl false) (fun _ _ e g => Evl.ex_l e g) (fun _ _ _ _ _ r => r) (sq_l (E2 _ _ hW)) (by show 1 < 1000000; decide) (fun i x H' Q' hi hx e' kk => ?_)
      (fun D ys H3 hl _ e3 hD' hr' => any_false (fun H4 e4 => ⟨false, rfl, iteF ?_⟩) D ys e3 hD' hr')⟩
    · have e0 : i = 0 := by
        have : i < 1 := hi
        omega
      subst e0
      have ex : x = .ref wy := (Option.some.inj hx).symm
      subst ex
      refine ⟨_, rfl, wy, _, rfl, (hY.ex E2).ex e', _, rfl, _, _, rfl, rfl, ?_⟩
      refine kk _ _ Ex.r ?_
      dsimp only
      rw [decide_eq_false (by rw [mw]; omega)]
    · have E4 := E2.trans e4
      have hp4 := E4 _ _ hp
      have hB4 := hB.ex E4
      have hY4 := hY.ex E4
      have hW4 := E4 _ _ hW
      clear e1 e2 e3
      unfold tNext
      try dsimp only
      refine ⟨_, rfl, _, rfl, p, CM, dx, [], rfl, hp4, T.clM, T.m_inlets, (by show 0 < 1000; decide), ?_⟩
      have hB5 : SqA K (upd H4 p (.ins CM dx (putF "inlets" (.int (m.n : Int)) []))) b (m.begin_.map dv) := sqA_upd hp4 hB4
      have hY5 : SqA K (upd H4 p (.ins CM dx (putF "inlets" (.int (m.n : Int)) []))) wy (m.way.map dv) := sqA_upd hp4 hY4
      have nwp : ws ≠ p := fun z => by rw [z, hp4] at hW4; cases hW4
      have hW5 : upd H4 p (.ins CM dx (putF "inlets" (.int (m.n : Int)) [])) ws = some (.lst [.ref wy]) := by rw [upd_ne nwp]; exact hW4
      have hp5 : upd H4 p (.ins CM dx (putF "inlets" (.int (m.n : Int)) [])) p = some (.ins CM dx (putF "inlets" (.int (m.n : Int)) [])) := upd_same
      have k5 : ∀ a o, a ≠ p → H a = some o → upd H4 p (.ins CM dx (putF "inlets" (.int (m.n : Int)) [])) a = some o := fun a o n h => by rw [upd_ne n]; exact E4 _ _ h
      generalize upd H4 p (.ins CM dx (putF "inlets" (.int (m.n : Int)) [])) = H5 at *
      refine ⟨_, rfl, _, _, rfl, .inl (lp_deeds hB5 (by omega)), fun vb H6 e6 t6 => ?_⟩
      refine ⟨_, rfl, p, CM, dx, _, rfl, e6 _ _ hp5, T.clM, T.m_begin, (by show 1 < 1000; decide), ?_⟩
      have hY7 : SqA K (upd H6 p (.ins CM dx (putF "begin" vb (putF "inlets" (.int (m.n : Int)) [])))) wy (m.way.map dv) := sqA_upd (e6 _ _ hp5) (hY5.ex e6)
      have hW7 : upd H6 p (.ins CM dx (putF "begin" vb (putF "inlets" (.int (m.n : Int)) []))) ws = some (.lst [.ref wy]) := by rw [upd_ne nwp]; exact e6 _ _ hW5
      have hp7 : upd H6 p (.ins CM dx (putF "begin" vb (putF "inlets" (.int (m.n : Int)) []))) p = some (.ins CM dx (putF "begin" vb (putF "inlets" (.int (m.n : Int)) []))) := upd_same
      have k7 : ∀ a o, a ≠ p → H a = some o → upd H6 p (.ins CM dx (putF "begin" vb (putF "inlets" (.int (m.n : Int)) []))) a = some o := fun a o n h => by rw [upd_ne n]; exact e6 _ _ (k5 _ _ n h)
      have t7 : Tp K (upd H6 p (.ins CM dx (putF "begin" vb (putF "inlets" (.int (m.n : Int)) [])))) vb (deedsD m.begin_) := tp_upd (e6 _ _ hp5) t6
      generalize upd H6 p (.ins CM dx (putF "begin" vb (putF "inlets" (.int (m.n : Int)) []))) = H7 at *
      have hl2 : Lp K 2 H7 (.ref ws) (.tuple [deedsD m.way]) := .inr ⟨ws, _, _, rfl, rfl, .inl (sq_l hW7), rfl, by show 1 ≤ 100000; decide, fun i x hx => by
        have e0 : i = 0 := by
          have : i < 1 := (List.getElem?_eq_some_iff.mp hx).1
          omega
        subst e0
        have ex : x = .ref wy := (Option.some.inj hx).symm
        subst ex
        exact ⟨_, rfl, lp_deeds hY7 (by omega)⟩⟩
      refine ⟨_, rfl, _, _, rfl, hl2, fun vw H8 e8 t8 => ?_⟩
      refine ⟨_, rfl, p, CM, dx, _, rfl, e8 _ _ hp7, T.clM, T.m_ways, ?_, ?_⟩
      · rw [mfs_put2]; show 2 < 1000; decide
      · rw [mfs_put]
        refine q _ (fun a o n h => by rw [upd_ne n]; exact e8 _ _ (k7 _ _ n h)) ⟨dx, vb, vw, upd_same, tp_upd (e8 _ _ hp7) (t7.ex e8), tp_upd (e8 _ _ hp7) t8⟩
/-! Maker.need -/
def spNeed (K : PySem.W.Frag) (CT CM : Addr) : Sp := fun vs H Q _ => ∃ (p a a0 a1 : Addr) (m : Mkr) (k c : Nat), vs = [.ref p, .int (k : Int), .ref a] ∧ MakAt K CM H p m ∧ k < m.n ∧ SqT K H a [.ref a0, .ref a1] ∧ SqT K H a0 (zeros 0) ∧ SqT K H a1 (zeros c) ∧ 1 ≤ c ∧ c ≤ 2 ∧
  m.begin_.length ≤ 600 ∧ m.way.length ≤ 600 ∧ Good (needRaw m k c).1 (needRaw m k c).2.1 (needRaw m k c).2.2 ∧ SzR (needRaw m k c) ∧
  ∀ (t : Addr) (b : List Int × List Int × Int) (H' : Hp), Ex H H' → Plain (needRaw m k c) b → TabAt K CT H' t b → Q (.ref t) H'
abbrev s_Maker_need : Stmt := inClass (top 59) 2
theorem sc_Maker_need : FnScope ["self", "inlet", "course"] ["self", "inlet", "course"] (defScope s_Maker_need) := ⟨rfl, rfl, rfl, by decide +kernel, rfl, by decide +kernel, by decide +kernel⟩
theorem ok_Maker_need {f : Addr} {fd : FuncData} (F : Fun K "need" "Maker.need" s_Maker_need f fd) (T : Txt K mg CT CM) (c_check_inlet : C8.Cal P w K mg base 2 "check_inlet" (spInlet K CM) []) (c_is_course : C8.Cal P w K mg base 3 "is_course" (spCourse K CM) [])
    (c_need_on : C8.Cal P w K mg base 7 "need_on" (spNeedOn K CT CM) []) : FnOk P w K mg base CX0 8 f fd ["self", "inlet", "course"] (spNeed K CT CM) := by
  refine F.ok sc_Maker_need (fun vs H Q E h => ?_) (fun cdv A outer s H vs Q E hr h => ?_)
  · obtain ⟨_, _, _, _, _, _, _, rfl, _⟩ := h
    rfl
  · obtain ⟨p, a, a0, a1, m, k, c, rfl, hM, hk, hA, h0, h1, hc1, hc2, zb, zw, g, hz, q⟩ := h
    refine ⟨_, (pss_cons (ps_expr (C8.pe_c c_check_inlet hr (by omega) rfl (pa_cons (pv 0) (pa_cons (pv 1) pa_nil))))
      (pss_cons (ps_if (pt_not (pt_val (C8.pe_c c_is_course hr (by omega) rfl (pa_cons (pv 0) (pa_cons (pv 2) pa_nil))))) (pss_one ps_never) pss_nil)
      (pss_one (ps_ret (C8.pe_c c_need_on hr (by omega) rfl (pa_cons (pv 0) (pa_cons (pv 1) (pa_cons (pv 2) pa_nil)))))))), ?_⟩
    refine ⟨_, rfl, _, rfl, p, m, k, rfl, hM, hk, ?_⟩
    refine ⟨_, rfl, _, rfl, p, a, a0, a1, m, c, rfl, hM, hA, h0, h1, hc1, hc2, fun H1 e1 => ⟨true, rfl, if_f rfl ?_⟩⟩
    exact ⟨_, rfl, _, rfl, _, rfl, p, a, a0, a1, m, k, c, rfl, hM.ex e1, Evl.ex_t e1 hA, Evl.ex_t e1 h0, Evl.ex_t e1 h1, hc2, zb, zw, g, hz, fun t b H' e' hb ht => q t b H' (e1.trans e') hb ht⟩
/-! extreme, least, greatest: of makers of one way -/
def spExtreme (K : PySem.W.Frag) (CT CM : Addr) : Sp := fun vs H Q _ => ∃ (p : Addr) (m : Mkr) (k : Nat) (bb : Bool), vs = [.ref p, .int (k : Int), .bl bb] ∧ MakAt K CM H p m ∧
  m.begin_.length ≤ 600 ∧ m.way.length ≤ 600 ∧ Good (needRaw m k 1).1 (needRaw m k 1).2.1 (needRaw m k 1).2.2 ∧ SzR (needRaw m k 1) ∧
  ∀ (t : Addr) (b : List Int × List Int × Int) (H' : Hp), Ex H H' → Plain (needRaw m k 1) b → TabAt K CT H' t b → Q (.ref t) H'
abbrev s_extreme : Stmt := top 62
theorem sc_extreme : FnScope ["maker", "inlet", "most", "rounds", "many", "rise", "longest", "cut", "values", "way"] ["maker", "inlet", "most"] (defScope s_extreme) := ⟨rfl, rfl, rfl, by decide +kernel, rfl, by decide +kernel, by decide +kernel⟩
theorem ok_extreme {f : Addr} {fd : FuncData} (F : Fun K "extreme" "extreme" s_extreme f fd) (T : Txt K mg CT CM) (c_need_on : C8.Cal P w K mg base 7 "need_on" (spNeedOn K CT CM) []) : FnOk P w K mg base CX0 8 f fd ["maker", "inlet", "most"] (spExtreme K CT CM) := by
  refine F.ok sc_extreme (fun vs H Q E h => ?_) (fun cdv A outer s H vs Q E hr h => ?_)
  · obtain ⟨_, _, _, _, rfl, _⟩ := h
    rfl
  · obtain ⟨p, m, k, bb, rfl, hM, zb, zw, g, hz, q⟩ := h
    obtain ⟨dx, vb, vw, hp, tb, tw⟩ := id hM
    obtain ⟨aw, bw, rfl, hW, hw⟩ := tw.way
    refine ⟨_, (pss_cons (ps_if (pt_cmpR op_eq (pe_callB (r := Evl.rLenS K) call_len_seq (by rfl) T.b_len PySem.boot_len (pa_cons (pe_fldK (K := K) (pv 0) rfl rfl) pa_nil)) pe_int (nomark _)) (pss_one (ps_ret (C8.pe_c c_need_on hr (by omega) rfl (pa_cons (pv 0) (pa_cons (pv 1) (pa_cons (pe_tup (pa_cons (pe_tup pa_nil) (pa_cons (pe_tup (pa_cons pe_int pa_nil)) pa_nil))) pa_nil)))))) pss_nil)
      pss_never), ?_⟩
    refine ⟨_, rfl, p, CM, dx, _, _, rfl, hp, T.clM, T.m_ways, mfs_ways _ _ _, aw, _, rfl, .inr hW, rfl, _, rfl, if_t (by show decide (V.int ((1 : Nat) : Int) = V.int 1) = true; decide) ?_⟩
    refine ⟨_, rfl, _, rfl, Nat.zero_le _, fun a0 n0 => ⟨(by show 1 ≤ sizeLine; decide), fun a1 n1 => ⟨(by show 2 ≤ sizeLine; decide), fun a n2 => ?_⟩⟩⟩
    have e0 : Ex H (upd H a0 (.tup [])) := Evl.Ex.new n0
    have e1 : Ex (upd H a0 (.tup [])) (upd (upd H a0 (.tup [])) a1 (.tup [V.int 0])) := Evl.Ex.new n1
    have e2 : Ex (upd (upd H a0 (.tup [])) a1 (.tup [V.int 0])) (upd (upd (upd H a0 (.tup [])) a1 (.tup [V.int 0])) a (.tup [V.ref a0, V.ref a1])) := Evl.Ex.new n2
    have h0 : SqT K (upd (upd (upd H a0 (.tup [])) a1 (.tup [V.int 0])) a (.tup [V.ref a0, V.ref a1])) a0 (zeros 0) := Evl.ex_t (e1.trans e2) (sq_t (H := upd H a0 (.tup [])) upd_same)
    have h1 : SqT K (upd (upd (upd H a0 (.tup [])) a1 (.tup [V.int 0])) a (.tup [V.ref a0, V.ref a1])) a1 (zeros 1) := Evl.ex_t e2 (sq_t (H := upd (upd H a0 (.tup [])) a1 (.tup [V.int 0])) upd_same)
    have E2 := e0.trans (e1.trans e2)
    exact ⟨p, a, a0, a1, m, k, 1, rfl, hM.ex E2, sq_t upd_same, h0, h1, by omega, zb, zw, g, hz, fun t b H' e' hb ht => q t b H' (E2.trans e') hb ht⟩
def spLeast (K : PySem.W.Frag) (CT CM : Addr) : Sp := fun vs H Q _ => ∃ (p : Addr) (m : Mkr) (k : Nat), vs = [.ref p, .int (k : Int)] ∧ MakAt K CM H p m ∧ k < m.n ∧
  m.begin_.length ≤ 600 ∧ m.way.length ≤ 600 ∧ Good (needRaw m k 1).1 (needRaw m k 1).2.1 (needRaw m k 1).2.2 ∧ SzR (needRaw m k 1) ∧
  ∀ (t : Addr) (b : List Int × List Int × Int) (H' : Hp), Ex H H' → Plain (needRaw m k 1) b → TabAt K CT H' t b → Q (.ref t) H'
abbrev s_least : Stmt := top 63
theorem sc_least : FnScope ["maker", "inlet"] ["maker", "inlet"] (defScope s_least) := ⟨rfl, rfl, rfl, by decide +kernel, rfl, by decide +kernel, by decide +kernel⟩
theorem ok_least {f : Addr} {fd : FuncData} (F : Fun K "least" "least" s_least f fd) (T : Txt K mg CT CM) (c_check_inlet : C8.Cal P w K mg base 2 "check_inlet" (spInlet K CM) []) (c_extreme : C8.Cal P w K mg base 8 "extreme" (spExtreme K CT CM) []) : FnOk P w K mg base CX0 9 f fd ["maker", "inlet"] (spLeast K CT CM) := by
  refine F.ok sc_least (fun vs H Q E h => ?_) (fun cdv A outer s H vs Q E hr h => ?_)
  · obtain ⟨_, _, _, rfl, _⟩ := h
    rfl
  · obtain ⟨p, m, k, rfl, hM, hk, zb, zw, g, hz, q⟩ := h
    refine ⟨_, (pss_cons (ps_expr (C8.pe_c c_check_inlet hr (by omega) rfl (pa_cons (pv 0) (pa_cons (pv 1) pa_nil))))
      (pss_one (ps_ret (C8.pe_c c_extreme hr (by omega) rfl (pa_cons (pv 0) (pa_cons (pv 1) (pa_cons pe_bl pa_nil))))))), ?_⟩
    refine ⟨_, rfl, _, rfl, p, m, k, rfl, hM, hk, ?_⟩
    exact ⟨_, rfl, _, rfl, p, m, k, _, rfl, hM, zb, zw, g, hz, q⟩
abbrev s_greatest : Stmt := top 64
theorem sc_greatest : FnScope ["maker", "inlet"] ["maker", "inlet"] (defScope s_greatest) := ⟨rfl, rfl, rfl, by decide +kernel, rfl, by decide +kernel, by decide +kernel⟩
theorem ok_greatest {f : Addr} {fd : FuncData} (F : Fun K "greatest" "greatest" s_greatest f fd) (T : Txt K mg CT CM) (c_check_inlet : C8.Cal P w K mg base 2 "check_inlet" (spInlet K CM) []) (c_extreme : C8.Cal P w K mg base 8 "extreme" (spExtreme K CT CM) []) : FnOk P w K mg base CX0 9 f fd ["maker", "inlet"] (spLeast K CT CM) := by
  refine F.ok sc_greatest (fun vs H Q E h => ?_) (fun cdv A outer s H vs Q E hr h => ?_)
  · obtain ⟨_, _, _, rfl, _⟩ := h
    rfl
  · obtain ⟨p, m, k, rfl, hM, hk, zb, zw, g, hz, q⟩ := h
    refine ⟨_, (pss_cons (ps_expr (C8.pe_c c_check_inlet hr (by omega) rfl (pa_cons (pv 0) (pa_cons (pv 1) pa_nil))))
      (pss_one (ps_ret (C8.pe_c c_extreme hr (by omega) rfl (pa_cons (pv 0) (pa_cons (pv 1) (pa_cons pe_bl pa_nil))))))), ?_⟩
    refine ⟨_, rfl, _, rfl, p, m, k, rfl, hM, hk, ?_⟩
    exact ⟨_, rfl, _, rfl, p, m, k, _, rfl, hM, zb, zw, g, hz, q⟩
end
end K28
end
section
set_option Elab.async false
set_option linter.all false
set_option maxRecDepth 100000
set_option maxHeartbeats 4000000
/-! Own exceptions over ValueError whose __init__ says super().__init__(f'..') and keeps its argument in a field. -/
namespace K28X
open PySem PySem.W PySem.Calls PyProof.Rows PySem.HandSPX
/-- the text of such an __init__ -/
def iB (e : Expr) (f : Str) (p0 p1 p2 p3 p4 p5 p6 p7 p8 : Pos) : List Stmt :=
  [.Expr (.Call (.Attribute (.Call (.Name "super" p0) [] [] p1) "__init__" p2) [e] [] p3) p4, .Assign [.Attribute (.Name "self" p5) f p6] (.Name f p7) p8]
def iSc (f : Str) : Scope := { kind := .function, names := [(PySem.Str.ofString "self", .local), (f, .local), (PySem.Str.ofString "__class__", .free), (PySem.Str.ofString "super", .globalImplicit)], isGenerator := false, isCoroutine := false, more := [] }
/-- e gives some text, whatever v the local f holds -/
def Says (prog : Program) (w : World) (e : Expr) (f : Str) (v : Value) : Prop := ∀ (env : Env) (A : Around) (E : Value → Shared → Prop) (Q : Value → Shared → Prop) (s : Shared) (m : Str → Option Value), s.heap.Ns env.locals m → m f = some v → env.scope.kind = .function → env.kindOf f = some .local →
  (∀ y t tk, Q (.str y t) { s with toks := tk }) → wpAny (model prog w) A (eval e env) Q E s
/-- what the written part says of the class C, whose __init__, at fI, stands in the class D -/
structure ETxt (prog : Program) (K : Frag) (C D fI : Addr) (f : Str) (e : Expr) : Prop where
  cls : ∃ nm q N bs bm sn sub ab col dd k0 k1 k2 k3 k5, K.lookup C = some (excClassObj nm q C N bs bm true sn sub ab col dd k0 k1 k2 k3 k5 "ValueError.__new__") ∧ refsVE bm = true
  sa : findIn K (.ref C) "__setattr__" = some (some (.builtin "object.__setattr__"))
  noN : findIn K (.ref C) f = some none
  iC : findIn K (.ref C) "__init__" = some (some (.ref fI))
  tC : typeIn K (.ref fI) = some (.type "function")
  kC : keepIn K (.ref C) = true
  exC : subIn K (.ref C) (.type "BaseException") = some true
  veC : subIn K (.ref C) (.type "ValueError") = some true
  tyC : typeIn K (.ref C) = some (.type "type")
  sup : ks_superIn K C D "__init__" = some (some (.builtin "ValueError.__init__"))
  clD : ∃ cdD, clsIn K D = some cdD
  subD : mroIn K C (.ref D) = some true
  noS : nsIn K mainGlobals "super" = some none
  opq : nsIn K cStatics "thirdparty.any" = some none
  top : (prog.main.scope.names.lookup ("super" : Str)).isSome = false
  fn : ∃ (qual : Str) (ar : Arguments) (p0 p1 p2 p3 p4 p5 p6 p7 p8 : Pos) (oc : Value) (od : Option Addr) (doc pm : Value) (an : Option Addr) (ct : Value) (osl : Array (Option Value)) (cda cc : Addr),
    K.lookup fI = some ⟨oc, od, .func (ksFn "__init__" qual ar (iB e f p0 p1 p2 p3 p4 p5 p6 p7 p8) (iSc f) .none .none doc pm an (.ref cda) ct cc), osl⟩ ∧ codeIn K (.ref cda) qual = true ∧ (p2.endLine == p3.line) = true ∧
    (∃ ar0, (ar.posonlyargs ++ ar.args).head? = some ar0 ∧ ar0.arg = "self") ∧ (∀ (s : Shared) (a b : Value), BindsTo s (ksFn "__init__" qual ar (iB e f p0 p1 p2 p3 p4 p5 p6 p7 p8) (iSc f) .none .none doc pm an (.ref cda) ct cc) ⟨[a, b], []⟩ [("self", a), (f, b)]) ∧
    (∃ ccl cdd vs ccs file tf, K.lookup cda = some ⟨ccl, cdd, .fields vs, ccs⟩ ∧ vs[2]? = some (.str file tf) ∧ ((prog.main.file : Str) == file) = true) ∧
    (∃ cl cld csl, K.lookup cc = some ⟨cl, cld, .cell (some (.ref D)), csl⟩)
  fne : ¬ f = "self"
  fnc : ¬ f = "__class__"
  fns : ¬ f = "super"
  fnd : (f == ("__debug__" : Str)) = false
/-- what __init__ leaves of a fresh exception at x -/
structure InitEnd (h h' : Heap) (x C dx : Addr) (f : Str) (v : Value) : Prop where
  keep : ∀ b o, b ≠ x → h.get? b = some o → h'.get? b = some o
  obj : ∃ t1 : Addr, h'.get? x = some { cls := .ref C, dict := some dx, data := .fields #[.ref t1, .none, .none, .none, .bool false, .none] }
  dbig : h.objs.size ≤ dx
  dne : dx ≠ x
  ns : h'.Ns1 dx (fun y => if y = f then some v else none)
section
variable {prog : Program} {w : World} {A : Around} {E : Value → Shared → Prop} {R : Result → Shared → Prop} {s : Shared} {K : Frag} {C D fI : Addr} {f : Str} {js : List Expr} {jp : Pos}
theorem call_bw {M : Model} {h : Heap} {g : Array GenState} {d : Drawn} {t : Nat} {os : OsState} {nm q : Str} {N u x t0 : Addr} {bs bm : List Value} {sn : List Str} {sub : List Value} {ab : Bool} {col : Option Bool} {dd : Option Addr} {k0 k1 k2 k3 k5 : Option Value} {rest : List Value} {Q : Value → Shared → Prop}
    (hC : h.get? C = some (excClassObj nm q C N bs bm true sn sub ab col dd k0 k1 k2 k3 k5 "ValueError.__new__")) (he : h.get? x = some (excO C t0)) (hu : h.get? u = some (kxs_mw "ValueError.__init__" x)) (hrest : rest.length ≤ sizeLine)
    (hq : ∀ h' t1, (∀ b o, b ≠ x → h.get? b = some o → h'.get? b = some o) → h'.get? x = some (excO C t1) → Q .none ⟨h', g, d, t, os⟩) :
    wpAny (model prog w) A (call (.ref u) rest) Q E ⟨h, g, d, t, os⟩ := by
  refine wpAny_call (codeAny_of_tree ?_)
  show wpAny _ A.in1 (callAny (.ref u) ⟨rest, []⟩) _ _ _
  simp only [callAny]
  refine wpAny_bind (wpAny_load hu ?_)
  simp only [kxs_mw, show (Value.type "method-wrapper" == Value.type "method" || Value.type "method-wrapper" == Value.type "builtin_function_or_method" || Value.type "method-wrapper" == Value.type "method-wrapper") = true by decide, if_true]
  refine KFB.if_so (by decide) ?_
  refine wpAny_bind (check_bound_init F.excBase_ValueError.toExcCallFacts hC he rfl ?_)
  refine wpAny_bind (wpAny_pure (wpAny_pure ?_))
  refine ⟨plainId_quiet F.excBase_ValueError.init.plain _, codeAny_builtin F.excBase_ValueError.initEntry ?_⟩
  rw [Around.under_plainId F.excBase_ValueError.init.plain _]
  refine exc_init_tree (cls := .ref C) (t0 := t0) (dv := none) (c2 := .none) (c3 := .none) (b4 := .bool false) he hrest fun h' k e' t' => ?_
  exact hq h' _ k e'
theorem mcall {M : Model} {c : Code} {env : Env} {o : Expr} {name : Str} {apos pos : Pos} {args : List Expr} {Q : Value → Shared → Prop}
    (hline : (apos.endLine == pos.line) = true)
    (h : PySem.wpAt M A c (attributeBase o name env (eval o env)) (fun ov s₁ => wpAny M A (getMethod ov name (do return (← importBound o env).getD true)) (fun fx s₂ => wpAny M A (callWith pos fx.1 fx.2 (backTo pos (starEach args env)) []) Q E s₂) E s₁) E s)
    (hform : methodCallForm (args.length + ([] : List Keyword).length) (backTo pos (starEach args env)) (backToKw pos (keywordEach [] env)) = true := by rfl) :
    PySem.wpAt M A c (eval (.Call (.Attribute o name apos) args [] pos) env) Q E s := by
  have hpos : methodCallPos true o env apos pos = pure pos := by unfold methodCallPos; simp [hline]
  rw [arm_eval_Call]
  refine PySem.wpAt_bind (PySem.wpAt_mono h (fun ov s₁ h₁ => PySem.wpAt_of_wpAny (wpAny_bind (wpAny_standAt ?_))) fun _ _ x => x)
  unfold methodCall
  rw [hform]
  refine wpAny_bind (wpAny_holding (wpAny_mono h₁ (fun fx s₂ h₂ => ?_) fun _ _ x => x))
  exact wpAny_bind (wpAny_of_eq hpos h₂)
theorem e_init {mg mb : Str → Option Value} (T : ETxt prog K C D fI f (.JoinedStr js jp)) {x t0 : Addr} {v : Value} (X : K.In s.heap) (hlim : s.heap.NoLimit) (G : s.heap.Ns mainGlobals mg) (B : s.heap.Ns builtinsNs mb) (hB : mb "super" = some (.type "super")) (hs : Says prog w (.JoinedStr js jp) f v)
    (hx : s.heap.get? x = some (excO C t0)) (hnx : K.lookup x = none) (hroom : A.depth < recursionLimit)
    (hq : ∀ h' tk dx, InitEnd s.heap h' x C dx f v → R (.ok (.ret .none)) { s with heap := h', toks := tk }) :
    codeAny (model prog w) A (.call (.ref fI) ⟨[.ref x, v], []⟩) R s := by
  obtain ⟨qual, ar, p0, p1, p2, p3, p4, p5, p6, p7, p8, oc, od, doc, pm, an, ct, osl, cda, cc, ho, hcd, hln, ⟨ar0, hp, har⟩, hbind, ⟨ccl, cdd, vs, ccs, file, tf, hcode, hvs, hfile⟩, ⟨cl, cld, csl, hcell⟩⟩ := T.fn
  obtain ⟨nm, q, N, bs, bm, sn, sub, ab, col, dd, k0, k1, k2, k3, k5, hC, hbm⟩ := T.cls
  obtain ⟨cdD, hD⟩ := T.clD
  have hcl : clsIn K C = some { name := nm, bases := bs, mro := .ref C :: bm, ns := N, qualname := q, hasDict := true, slotNames := sn, subclasses := sub, abstract := ab, collection := col, hasDel := false } := by unfold clsIn; rw [hC] <;> rfl
  have hself : ¬ (f = "self") := T.fne
  have lf : (iSc f).names.lookup f = some .local := by
    have h1 : (f == PySem.Str.ofString "self") = false := by simpa using T.fne
    simp [iSc, List.lookup, h1]
  have ls : (iSc f).names.lookup ("self" : Str) = some .local := by simp [iSc, List.lookup]
  have lsu : (iSc f).names.lookup ("super" : Str) = some .globalImplicit := by
    have h1 : (("super" : Str) == PySem.Str.ofString "self") = false := by decide +kernel
    have h2 : (("super" : Str) == f) = false := by simpa using fun z => T.fns z.symm
    have h3 : (("super" : Str) == PySem.Str.ofString "__class__") = false := by decide +kernel
    simp [iSc, List.lookup, h1, h2, h3]
  have lc : (iSc f).names.lookup ("__class__" : Str) = some .free := by
    have h1 : (("__class__" : Str) == PySem.Str.ofString "self") = false := by decide +kernel
    have h2 : (("__class__" : Str) == f) = false := by simpa using fun z => T.fnc z.symm
    simp [iSc, List.lookup, h1, h2]
  refine ks_codeAny_call_defAt (fd := ksFn "__init__" qual ar (iB (.JoinedStr js jp) f p0 p1 p2 p3 p4 p5 p6 p7 p8) (iSc f) .none .none doc pm an (.ref cda) ct cc) (body := iB (.JoinedStr js jp) f p0 p1 p2 p3 p4 p5 p6 p7 p8) (binds := [("self", .ref x), (f, v)]) hroom (X _ _ ho) rfl hlim (codeRec_of X hcd) rfl (hbind _ _ _) ?_ ?_ (fun h₁ hns hk₁ => ?_)
  · intro y hy
    simp only [iSc, List.mem_cons, List.not_mem_nil, or_false] at hy
    rcases hy with rfl | rfl | rfl | rfl <;> (intro z; cases z)
  · intro y hy
    simp only [List.mem_cons, List.not_mem_nil, or_false] at hy
    rcases hy with rfl | rfl
    · exact ls
    · exact lf
  have X₁ : K.In h₁ := X.keeps hk₁
  have mself : ([(("self" : Str), Value.ref x), (f, v)].reverse.lookup ("self" : Str)) = some (Value.ref x) := by
    have h2 : (("self" : Str) == f) = false := by simpa using fun z => T.fne z.symm
    simp [List.lookup, h2]
  have mf : ([(("self" : Str), Value.ref x), (f, v)].reverse.lookup f) = some v := by simp [List.lookup]
  have hx₁ := hk₁ _ _ hx
  -- super().__init__(..)
  obtain ⟨oD, hD1, hD2⟩ : ∃ oD, h₁.get? D = some oD ∧ oD.data = .cls cdD := by
    have hD' := hD
    unfold clsIn at hD'
    split at hD'
    · rename_i c d cd' sl ho'
      cases hD'
      exact ⟨_, X₁ _ _ ho', rfl⟩
    · cases hD'
  have I1 : InstAt h₁ x (excO C t0) C none := ⟨hx₁, rfl, rfl, trivial⟩
  refine ks_wpAt_execs_cons (ks_wpAt_Expr_any (mcall hln ?_))
  refine ks_wpAt_super_base (f := fI) (cc := cda) lsu lc (by decide +kernel) rfl (X₁ _ _ ho) rfl hp rfl (X₁ _ _ hcode) rfl hvs hfile T.top ?_
  refine ks_loadName_global rfl lsu (loadGlobal_builtin (G.keeps hk₁) (mg_none_of X G T.noS) (B.keeps hk₁) hB ⟨rfl, ?_⟩)
  refine wpAny_loadName_free (c := cc) rfl lc (by rfl) ⟨_, X₁ _ _ hcell, rfl⟩ ?_
  rw [har]
  refine wpAny_loadName_local rfl ls hns mself ?_
  refine ks_wpAny_isType_cls hD1 hD2 ⟨rfl, ?_⟩
  refine ks_wpAny_call_super hD1 hD2 hx₁ rfl (fun c z => by cases z) (looks_mroIn X₁ T.subD) (fun h₂ so k₂ => ?_)
  have X₂ : K.In h₂ := X₁.keeps k₂
  have hx₂ := k₂ _ _ hx₁
  have I2 : InstAt h₂ x (excO C t0) C none := ⟨hx₂, rfl, rfl, trivial⟩
  have hm := T.sup
  unfold ks_superIn at hm
  rw [hcl] at hm
  refine kxs_getMethod kxs_ValueError so (looks_opaque X₂ T.opq) (l₀ := .ref C :: bm) (fun A Q E s k q => wpAny_bind ((looks_clsIn X₂ hcl) A _ E s k (wpAny_pure q))) rfl X₂ hm (I2.type.andThen (looks_subIn X₂ T.veC)) (ks_ne X₂ I2 hcl) (by decide +kernel) ?_
  have hz : h₁.objs.size < h₂.objs.size := Heap.lt_size so
  have k₃ : ∀ b o, h₂.get? b = some o → (h₂.push (kxs_mw "ValueError.__init__" x)).get? b = some o := fun b o z => Heap.get?_push_of_some _ z
  have hu : (h₂.push (kxs_mw "ValueError.__init__" x)).get? h₂.objs.size = some (kxs_mw "ValueError.__init__" x) := Heap.get?_push_at rfl rfl
  generalize hh₃ : h₂.push (kxs_mw "ValueError.__init__" x) = h₃ at *
  have hn₃ : h₃.Ns s.heap.objs.size (fun y => [(("self" : Str), Value.ref x), (f, v)].reverse.lookup y) := by
    obtain ⟨oL, es, ep, hL, r⟩ := hns
    exact ⟨oL, es, ep, k₃ _ _ (k₂ _ _ hL), r⟩
  refine kxs_callWith (i := "ValueError.__init__") (x := x) rfl (evalArgs_plain (spliced_cons ?_))
  refine hs _ _ _ _ _ _ hn₃ mf rfl lf fun y t tk => spliced_nil ⟨hu, ?_⟩
  have X₃ : K.In h₃ := X₂.keeps k₃
  refine call_bw (M := model prog w) (X₃ _ _ hC) (k₃ _ _ hx₂) hu (by rw [sizeLine_eq]; exact (by decide : 1 ≤ 16777216)) (fun h₄ t1 k₄ hx₄ => ?_)
  -- self.f = f
  have nL : s.heap.objs.size ≠ x := Nat.ne_of_gt (Heap.lt_size hx)
  have hn₄ : h₄.Ns s.heap.objs.size (fun y => [(("self" : Str), Value.ref x), (f, v)].reverse.lookup y) := by
    obtain ⟨oL, es, ep, hL, r⟩ := hn₃
    exact ⟨oL, es, ep, k₄ _ _ nL hL, r⟩
  have X₄ : K.In h₄ := fun a o z => k₄ a o (fun y => by rw [y, hnx] at z; cases z) (X₃ a o z)
  refine ks_wpAt_execs_cons (wpAt_of_wpAny (plainObj_wpAny_Assign_Attribute ?_))
  refine wpAny_Name (wpAny_loadName_local rfl lf hn₄ mf ?_) T.fnd
  refine wpAny_Name (wpAny_loadName_local rfl ls hn₄ mself ?_) (by decide +kernel)
  refine set_plain X₄ (ox := excO C t1) (od := none) ⟨hx₄, rfl, rfl, trivial⟩ T.sa ?_
  refine exc_osa X₄ hx₄ hcl (show refsVE (.ref C :: bm) = true from hbm) rfl T.noN (fun h₅ tk₅ dx k₅ dn dne hx₅ hn₅ => ?_)
  refine wpAt_of_wpAny (wpAny_execs_nil (hq h₅ tk₅ dx ⟨fun b o hb z => k₅ b o hb (k₄ b o hb (k₃ b o (k₂ b o (hk₁ b o z)))), ⟨t1, hx₅⟩, ?_, dne, hn₅⟩))
  have z0 : h₄.objs.size ≤ dx := dn
  have z1 : s.heap.objs.size < h₁.objs.size := hns.lt
  have z2 : h₂.objs.size ≤ h₃.objs.size := by rw [← hh₃, Heap.size_push]; omega
  have z3 : h₂.objs.size < h₄.objs.size := by
    by_cases hc : h₂.objs.size = x
    · rw [hc]; exact Heap.lt_size hx₄
    · exact Heap.lt_size (k₄ _ _ hc hu)
  omega
/-- a made one -/
structure OwnMade (h h' : Heap) (e C d : Addr) (f : Str) (v : Value) : Prop where
  keep : ∀ b o, h.get? b = some o → h'.get? b = some o
  new : h.objs.size ≤ e
  obj : ∃ oe vs, h'.get? e = some oe ∧ oe.cls = .ref C ∧ oe.dict = some d ∧ oe.data = .fields vs ∧ vs[1]? = some .none
  dbig : h.objs.size ≤ d
  dne : d ≠ e
  ns : h'.Ns1 d (fun y => if y = f then some v else none)
theorem e_made {mg mb : Str → Option Value} (T : ETxt prog K C D fI f (.JoinedStr js jp)) {v : Value} (X : K.In s.heap) (hlim : s.heap.NoLimit) (G : s.heap.Ns mainGlobals mg) (B : s.heap.Ns builtinsNs mb) (hB : mb "super" = some (.type "super")) (hs : Says prog w (.JoinedStr js jp) f v) (hroom : A.depth + 1 < recursionLimit)
    (hq : ∀ h' tk e d, OwnMade s.heap h' e C d f v → R (.ok (.ret (.ref e))) { s with heap := h', toks := tk }) :
    codeAny (model prog w) A (.call (.ref C) ⟨[v], []⟩) R s := by
  obtain ⟨nm, q, N, bs, bm, sn, sub, ab, col, dd, k0, k1, k2, k3, k5, hC, hbm⟩ := T.cls
  obtain ⟨hp, g, dr, tk, os⟩ := s
  have k : ∀ b o, hp.get? b = some o → ((hp.push (kdv_tup [v])).push (excO C hp.objs.size)).get? b = some o := fun b o e => Heap.get?_push_of_some _ (Heap.get?_push_of_some _ e)
  have hget : ((hp.push (kdv_tup [v])).push (excO C hp.objs.size)).get? (hp.objs.size + 1) = some (excO C hp.objs.size) := by heap_get
  have hnx : K.lookup (hp.objs.size + 1) = none := by
    cases e : K.lookup (hp.objs.size + 1) with
    | none => rfl
    | some o =>
      have z : hp.get? (hp.objs.size + 1) = some o := X _ _ e
      exact absurd (Nat.lt_of_succ_lt (Heap.lt_size z)) (Nat.lt_irrefl _)
  refine call_own F.excBase_ValueError (fun X => refsVE_contains X bm hbm) (X _ _ hC) (looks_findIn X T.iC) (fun self => bind_fn X self T.tC) (by rw [sizeLine_eq]; exact (by decide : 1 ≤ 16777216)) ?_
  refine e_init (s := ⟨(hp.push (kdv_tup [v])).push (excO C hp.objs.size), g, dr, tk, os⟩) T (X.keeps k) (hlim.keeps k) (G.keeps k) (B.keeps k) hB hs hget hnx ?_ fun h' tk' dx ⟨k', ⟨t1, hx⟩, dn, dne, hns⟩ => ?_
  · show A.depth + 1 < recursionLimit
    exact hroom
  · have old : ∀ b o, hp.get? b = some o → h'.get? b = some o := fun b o e => k' b o (Nat.ne_of_lt (Nat.lt_succ_of_lt (Heap.lt_size e))) (k b o e)
    have z : hp.objs.size + 1 + 1 ≤ dx := by
      first
        | (simpa only [Heap.size_push] using dn)
        | exact dn
        | (have q := dn; rw [Heap.size_push, Heap.size_push] at q; exact q)
    exact ⟨rfl, hq h' tk' (hp.objs.size + 1) dx ⟨old, Nat.le_succ _, ⟨_, _, hx, rfl, rfl, rfl, rfl⟩, Nat.le_trans (Nat.le_trans (Nat.le_succ _) (Nat.le_succ _)) z, dne, hns⟩⟩
end
/-! ### what the f-strings say -/
section
variable {prog : Program} {w : World} {f : Str} {p1 p2 p3 p4 p5 : Pos}
theorem says_int {a b : Str} {n : Int} {t : Tok} (hn : n.natAbs.log2 < 1920) (ha : a.length ≤ 1000) (hb : b.length ≤ 1000) (hf : (f == ("__debug__" : Str)) = false) :
    Says prog w (.JoinedStr [.Constant (.str a) 0 p1, .FormattedValue (.Name f p2) (-1) none p3, .Constant (.str b) 0 p4] p5) f (.int n t) := by
  intro env A E Q s m hns hm hk hl hq
  have e1 := int_text_length_le (k := 1920) (by decide) hn
  have e2 : (Str.ofString (toString n)).length ≤ 1921 := by rw [PySem.ofString_length]; omega
  refine wpAny_JoinedStr (wpAny_Constant_str ⟨_, _, rfl, ?_, wpAny_FormattedValue_plain (wpAny_Name (wpAny_loadName_local hk hl hns hm (wpAny_formatField_int hn ⟨_, _, rfl, ?_, wpAny_Constant_str ⟨_, _, rfl, ?_, ?_, hq _ _ _⟩⟩)) hf)⟩)
  all_goals (rw [sizeLine_eq]; simp only [strLen_append]; have z : Str.empty.length = 0 := rfl; simp only [z]; omega)
theorem says_str {a : Str} {x : Str} {t : Tok} (ha : a.length ≤ 1000) (hx : x.length ≤ 1000) (hf : (f == ("__debug__" : Str)) = false) :
    Says prog w (.JoinedStr [.Constant (.str a) 0 p1, .FormattedValue (.Name f p2) (-1) none p3] p5) f (.str x t) := by
  intro env A E Q s m hns hm hk hl hq
  refine wpAny_JoinedStr (wpAny_Constant_str ⟨_, _, rfl, ?_, wpAny_FormattedValue_plain (wpAny_Name (wpAny_loadName_local hk hl hns hm (wpAny_formatField_str ⟨_, _, rfl, ?_, ?_, hq _ _ _⟩ ⟨_, _, rfl, ?_, ?_, hq _ _ _⟩ (by rw [sizeLine_eq]; omega))) hf)⟩)
  all_goals (rw [sizeLine_eq]; simp only [strLen_append]; have z : Str.empty.length = 0 := rfl; simp only [z]; omega)
end
end K28X
namespace K28
open PySem PySem.Spec PyProof.Rows L2
theorem relO_fld {v : V} {v' : Value} (r : RelV v v') (fl f : Str) : RelO (List.lookup f [((fl : Str), v)]) (if f = fl then some v' else none) := by
  by_cases hw : f = fl
  · subst hw
    rw [if_pos rfl]
    have q : List.lookup f [((f : Str), v)] = some v := by simp [List.lookup]
    rw [q]
    exact r
  · rw [if_neg hw]
    have qw : (f == fl) = false := by simpa using hw
    have q2 : List.lookup f [((fl : Str), v)] = none := by simp [List.lookup, qw]
    rw [q2]
    trivial
section
variable {X : Cx} {C D fI : Addr} {f : Str} {js : List Expr} {jp : Pos}
/-- C(e), C an own exception -/
def tMkE (C : Addr) (f : Str) (P : V → Prop) (ta : TA) : L2.St → Hp → XK → Prop := fun σ H Q => ta σ H fun vs H1 => ∃ v, vs = [v] ∧ P v ∧ ∀ d, H1 d = none → Q (.ref C) (some d) (upd H1 d (.xd [(f, v)]))
theorem pmk_e {x : Str} {a : Expr} {ta : TA} {P : V → Prop} {p pos : Pos} {k : Nat} (T : K28X.ETxt X.prog X.K C D fI f (.JoinedStr js jp)) (hgC : X.mg x = some (.ref C)) (hms : X.mg "super" = none)
    (hP : ∀ v v', P v → RelV v v' → K28X.Says X.prog X.w (.JoinedStr js jp) f v') (hr : Room k X.A) (ha : PA X [a] ta) (hg : Gl X x := by rfl)
    (he : starEach (a :: []) X.env = (false, eval a X.env) :: starEach [] X.env := by rfl) (hpl : (backTo pos (starEach [] X.env)).any (·.1) = false := by rfl) (hd : (x == ("__debug__" : Str)) = false := by decide) :
    PMk X (.Call (.Name x p) [a] [] pos) (tMkE C f P ta) := by
  intro pins s σ H Q I h
  refine wpAny_Call_Name_kw (ld_glob I hg hgC ?_ hd)
  refine PySem.W.callWith_K (h₀ := X.base) I.ok.mod.kin T.kC (thn (ha.run pos pins s σ H _ I h) fun us s1 hh => ?_) he hpl
  obtain ⟨vs, H1, I1, r1, v, ev, hPv, q1⟩ := hh
  subst ev
  refine ⟨I1.kIn, ?_⟩
  cases r1 with
  | cons rv rn =>
    rename_i v' us'
    cases rn
    show wpAny _ _ (call (.ref C) [v']) _ _ _
    have hlim := I1.nolimit
    obtain ⟨mb, hb1, hb2⟩ := I1.mod.blt
    have hB := hb1.keeps I1.bk
    have hG := I1.mod.glob.keeps I1.bk
    have hsup : mb "super" = some (.type "super") := (hb2 "super" (by decide)).trans (by decide +kernel)
    have hlv := hP v v' hPv rv
    obtain ⟨hp, g, dr, tk, os⟩ := s1
    refine wpAny_call (K28X.e_made T I1.kIn hlim hG hB hsup hlv (by have := hr.dp; omega) fun h' tk' e d M => ?_)
    show MkP X pins σ Q (.ref e) ⟨h', g, dr, tk', os⟩
    obtain ⟨oe, fv, hoe, hc, hd, hdat, h1⟩ := M.obj
    have hns := M.ns
    obtain ⟨G', g1, g2⟩ := restrict h' fun b => decide (b ≠ e)
    have gk : ∀ b, b ≠ e → G'.get? b = h'.get? b := fun b hb => g1 b (decide_eq_true hb)
    have ge : G'.get? e = none := g2 e (by simp)
    have old : ∀ b o, hp.get? b = some o → G'.get? b = some o := fun b o q => (gk b (Nat.ne_of_lt (Nat.lt_of_lt_of_le (Heap.lt_size q) M.new))).trans (M.keep b o q)
    have ob : ObjOk X.prog X.w (upd H1 d (.xd [(f, v)])) G' d (.xd [(f, v)]) :=
      ⟨_, hns.at (fun o q => (gk d M.dne).trans q), fun y => relO_fld rv f y⟩
    have J : Inv X pins σ (upd H1 d (.xd [(f, v)])) ⟨G', g, dr, tk', os⟩ := I1.laid (t' := tk') old M.dbig ob
    refine ⟨e, oe, fv, ⟨G', g, dr, tk', os⟩, _, .ref C, some d, rfl, J, fun b o q => ?_, ge, hoe, ⟨hc, hd⟩, hdat, h1, ?_, rfl, I1.bare, L2.raises_own T.exC T.tyC, q1 d (I1.hok.fresh M.dbig)⟩
    · by_cases hb : b = e
      · have q' : G'.get? b = some o := q
        rw [hb, ge] at q'; cases q'
      · exact (gk b hb).symm.trans q
    · rw [upd_ne (Ne.symm M.dne)]
      exact I1.hok.fresh M.new
/-- raise C(e) -/
def tRaiseE (C : Addr) (f : Str) (P : V → Prop) (W : WX) (ta : TA) : TS := fun _ σ H => tMkE C f P ta σ H fun cls d H' => W cls d σ H'
theorem ps_raiseE {x : Str} {a : Expr} {ta : TA} {P : V → Prop} {W : WX} {p pos pos2 : Pos} {k : Nat} (hc : X.calm = true) (T : K28X.ETxt X.prog X.K C D fI f (.JoinedStr js jp)) (hgC : X.mg x = some (.ref C)) (hms : X.mg "super" = none)
    (hP : ∀ v v', P v → RelV v v' → K28X.Says X.prog X.w (.JoinedStr js jp) f v') (hr : Room k X.A) (tk : Takes X W) (ha : PA X [a] ta) (hg : Gl X x := by rfl)
    (he : starEach (a :: []) X.env = (false, eval a X.env) :: starEach [] X.env := by rfl) (hpl : (backTo pos (starEach [] X.env)).any (·.1) = false := by rfl) (hd : (x == ("__debug__" : Str)) = false := by decide) :
    PS X (.Raise (some (.Call (.Name x p) [a] [] pos)) none pos2) (tRaiseE C f P W ta) := ps_raise hc tk (pmk_e T hgC hms hP hr ha hg he hpl hd)
end
end K28
end
section
set_option Elab.async false
set_option linter.all false
set_option maxRecDepth 100000
set_option maxHeartbeats 4000000
/-! a try whose except clauses each name what they catch; the field of an own exception -/
namespace K28
open PySem PySem.Spec PyProof.Rows L2
/-- the ends behind a clause that names what it catches: the name is gone -/
def gone (i : Nat) (D : Ends) : Ends := { nx := fun σ' H' => D.nx (σ'.set i none) H', rt := D.rt, bk := fun σ' H' => D.bk (σ'.set i none) H', ct := fun σ' H' => D.ct (σ'.set i none) H' }
def wSome (K : PySem.W.Frag) (Wout : WX) (D : Ends) : List (Value × Nat × (Addr → Value → Option Addr → TS)) → WX
  | [] => Wout
  | (c, i, ts) :: r => fun cls d σ H => ∃ b, PySem.W.exmOne K cls c = some b ∧ (b = true → ∀ a, H a = none → ts a cls d (gone i D) (σ.set i (some (.ref a))) H) ∧ (b = false → wSome K Wout D r cls d σ H)
inductive HdsAs (X : Cx) : List ExceptHandler → List (Value × Nat × (Addr → Value → Option Addr → TS)) → Prop
  | nil : HdsAs X [] []
  | cons {x n : Str} {i : Nat} {c : Value} {ts : Addr → Value → Option Addr → TS} {b₀ : Stmt} {suite : List Stmt} {np pos' : Pos} {hds : List ExceptHandler} {l : List (Value × Nat × (Addr → Value → Option Addr → TS))} (hi : X.N[i]? = some n) (hln : X.env.kindOf n = some .local) (hc : Names X x c)
      (hsu : ∀ (a : Addr) (oe : Obj) (cls : Value) (d : Option Addr) (pn : List (Addr × Obj)), Zc cls d oe → (∃ vs, oe.data = .fields vs) → PSs (X.suite a ((a, oe) :: pn)) (b₀ :: suite) (ts a cls d)) (r : HdsAs X hds l) :
      HdsAs X (.ExceptHandler (some (.Name x np)) (some n) (b₀ :: suite) pos' :: hds) ((c, i, ts) :: l)
section
variable {X : Cx} {body : List Stmt} {h₀ : ExceptHandler} {hds : List ExceptHandler} {l : List (Value × Nat × (Addr → Value → Option Addr → TS))} {pos : Pos} {tb : WX → TS} {Wout : WX}
theorem ps_try_some (hs : X.stack = X.env :: X.outer) (hf : X.env.frame = some X.env.locals) (hN : X.N.Nodup) (tk : Takes X Wout)
    (hb : ∀ (W : WX) (pn : List (Addr × Obj)) (xe : Value → Shared → Prop), Takes (X.tr pn xe) W → PassesOwn (model X.prog X.w) X.A X.env xe → PSs (X.tr pn xe) body (tb W))
    (hh : HdsAs X (h₀ :: hds) l) : PS X (.Try body (h₀ :: hds) [] [] pos) (fun D σ H => tb (wSome X.K Wout D l) D σ H) := by
  refine ⟨fun pins s σ H D I h => ?_⟩
  have ok := I.ok
  have hfr : X.A.frames = some (X.env :: X.outer) := by rw [ok.frames, hs]
  refine wpAny_Try_except ?_
  refine wpAny_mono ((hb (wSome X.K Wout D l) (X.pn ++ pins) (fun e s₁ => wpAny (model X.prog X.w) X.A (noteFrame e X.env) (fun _ s₂ => wpAny (model X.prog X.w) X.A (setFlight e none) (fun _ s₃ =>
    wpAny (model X.prog X.w) X.A (handleBy e X.env (h₀ :: hds)) (SP X pins D) X.xe s₃) X.xe s₂) X.xe s₁) (fun u s' xx => ?_) PassesOwn.looking).run [] s σ H D (I.toTry _) h) (fun f s1 hsp => ?_) (fun e s1 he => he)
  · obtain ⟨a, B, sI, pins', σ', H', cls, d, rfl, J', nb, up, sky, na, os, ag, w⟩ := xx
    have J : Inv X pins σ' H' sI := J'.ofTry ok
    have sky' : Sky B (X.env :: X.outer) a (Zc cls d) X.env.locals s'.heap := by rw [← hs]; exact sky
    show wpAny (model X.prog X.w) X.A (noteFrame (.ref a) X.env) _ _ _
    refine Sky.land Zc.steady hfr hf sky' fun h3 fl3 up3 => ?_
    have J3 : Inv X pins σ' H' { s' with heap := h3 } := J.landed nb fl3.1 (up.trans up3) os ag
    obtain ⟨oe3, vs3, he3, hz3, hd3⟩ := fl3.there
    have notFr : ∀ {h : Heap} {o : Obj} {vs : Array Value}, h.FunFrames B (X.env :: X.outer) → h.get? a = some o → o.data = .fields vs → a ∉ frs (X.env :: X.outer) := fun {h o vs} ff e dd hm => by
      obtain ⟨_, o', e', hnf⟩ := ff.mem hm
      rw [e] at e'; cases e'
      exact hnf _ dd
    have nfr := notFr fl3.2.2.1 he3 hd3
    have nL : a ≠ X.env.locals := fun z => nfr (List.mem_filterMap.mpr ⟨X.env, List.mem_cons_self, by rw [hf, z]⟩)
    have nF : a ∉ X.fs := fun hm => by
      obtain ⟨e, he, q⟩ := List.mem_filterMap.mp hm
      exact nfr (List.mem_filterMap.mpr ⟨e, List.mem_cons_of_mem _ he, q⟩)
    have S3 := J3.suite he3 hd3 na nL nF
    have go : ∀ {hds' : List ExceptHandler} {l' : List (Value × Nat × (Addr → Value → Option Addr → TS))}, HdsAs X hds' l' → wSome X.K Wout D l' cls d σ' H' →
        wpAny (model X.prog X.w) X.A (handleBy (.ref a) X.env hds') (SP X pins D) X.xe { s' with heap := h3 } := by
      intro hds' l' hk
      induction hk with
      | nil =>
        intro w
        refine wpAny_handleBy_nil ?_
        obtain ⟨k1, k2, k3, oe, vs, T, oT, ts', he, hz, hd, h1, hr⟩ := id fl3
        unfold PySem.passOn
        refine wpAny_bind (wpAny_field he hd h1 ?_)
        rw [if_neg (show ¬ ((Value.ref T == Value.none) = true) from by simp)]
        have fin : wpAny (model X.prog X.w) X.A (setFlight (.ref a) X.env.frame) (fun _ s4 => wpAny (model X.prog X.w) X.A (throw (.ref a) : Sem Flow) (SP X pins D) X.xe s4) X.xe { s' with heap := h3 } := by
          rw [hf]
          refine PySem.HandSPX.setFlight_upZ fl3 fun h4 hh4 up4 => wpAny_throw (tk _ _ ?_)
          exact ⟨a, B, sI, pins, σ', H', cls, d, rfl, J, nb, (up.trans up3).trans up4, .inr (.inr (by rw [hs]; exact hh4)), na, os, ag, w⟩
        first
          | exact wpAny_bind (wpAny_pure (wpAny_bind fin))
          | exact wpAny_bind fin
      | @cons x n i c ts b₀ suite np pos' hds2 l2 hi hln hc hsu r ih =>
        intro w
        obtain ⟨b, hb1, hyes, hno⟩ := w
        refine wpAny_handleBy_cons (codeAny_handlers_test ?_) (by intro q; cases q)
        have LT : PySem.W.Looks (model X.prog X.w) h3 (typeOf (.ref a)) cls := fun A Q E s k q => wpAny_typeOf_ref (k _ _ he3) (by rw [hz3.1]; exact q)
        have LM := PySem.W.exm_one (M := model X.prog X.w) (J3.kIn) LT hb1
        have test : ∀ {Q : Value → Shared → Prop} {E : Value → Shared → Prop}, Q c { s' with heap := h3 } → wpAny (model X.prog X.w) (X.A.mark (some (.ref a))) (eval (.Name x np) X.env) Q E { s' with heap := h3 } := fun {Q E} q => by
          obtain ⟨hg, hdbg, hm | ⟨hm, hv, hnn⟩⟩ := hc
          · exact ld_glob (X := X.suite a ((a, oe3) :: (X.pn ++ pins))) S3 hg hm q hdbg
          · exact ld_blt (X := X.suite a ((a, oe3) :: (X.pn ++ pins))) S3 hg hm hv q hnn hdbg
        refine test (LM.here ?_)
        cases b with
        | true =>
          refine codeAny_handlers_suite_as ?_
          refine PySem.HandSPX.lands_againZ fl3 fun h4 fl4 up4 => ?_
          have J4 : Inv X pins σ' H' { s' with heap := h4 } := J.landed nb fl4.1 ((up.trans up3).trans up4) os ag
          obtain ⟨oe4, vs4, he4, hz4, hd4⟩ := fl4.there
          have S4 := J4.suite he4 hd4 na nL nF
          refine store_ok (X := X.suite a ((a, oe4) :: (X.pn ++ pins))) (v := .ref a) S4 hN hi (.inl hln) rfl (fun s5 S5 => ?_) (.inr hln)
          refine wpAny_mono ((hsu a oe4 cls d (X.pn ++ pins) hz4 ⟨_, hd4⟩).run [] s5 _ H' _ S5 (hyes rfl a na)) (fun f s6 hsp => ?_) (fun _ _ z => False.elim z)
          have end_ : ∀ {σ6 : L2.St} {H6 : Hp} {Q : Shared → Prop}, Inv (X.suite a ((a, oe4) :: (X.pn ++ pins))) [] σ6 H6 s6 → (∀ s7, Inv X pins (σ6.set i none) H6 s7 → Q s7) →
              wpAny (model X.prog X.w) X.A (do bindName X.env n .none; unbindBehindTheSuite X.env n pos') (fun _ s7 => Q s7) X.xe s6 := fun {σ6 H6 Q} S6 hq => gone_ok (S6.unsuite ok) hN hi hln hq
          cases f with
          | next =>
            obtain ⟨σ6, H6, S6, q6⟩ := hsp
            exact end_ S6 fun s7 J7 => ⟨_, _, J7, q6⟩
          | brk =>
            obtain ⟨σ6, H6, S6, q6⟩ := hsp
            exact end_ S6 fun s7 J7 => ⟨_, _, J7, q6⟩
          | cont =>
            obtain ⟨σ6, H6, S6, q6⟩ := hsp
            exact end_ S6 fun s7 J7 => ⟨_, _, J7, q6⟩
          | ret u =>
            obtain ⟨v6, σ6, H6, S6, r6, q6⟩ := hsp
            exact end_ S6 fun s7 J7 => ⟨_, _, _, J7, r6, q6⟩
        | false =>
          show wpAny _ X.A (handleBy (.ref a) X.env hds2) _ _ _
          exact ih (hno rfl)
    exact go hh w
  · cases f with
    | next =>
      obtain ⟨σ', H', J', q⟩ := hsp
      exact wpAny_execs_nil ⟨σ', H', J'.ofTry ok, q⟩
    | brk =>
      obtain ⟨σ', H', J', q⟩ := hsp
      exact ⟨σ', H', J'.ofTry ok, q⟩
    | cont =>
      obtain ⟨σ', H', J', q⟩ := hsp
      exact ⟨σ', H', J'.ofTry ok, q⟩
    | ret u =>
      obtain ⟨v, σ', H', J', r, q⟩ := hsp
      exact ⟨v, σ', H', J'.ofTry ok, r, q⟩
end
/-- what the written part says of C so that a field f of its exceptions can be read -/
structure EFld (K : PySem.W.Frag) (C : Addr) (f : Str) : Prop where
  ga : PySem.W.findIn K (.ref C) "__getattribute__" = some (some (.builtin "BaseException.__getattribute__"))
  gg : PySem.W.findIn K (.ref C) "__getattr__" = some none
  exC : PySem.W.subIn K (.ref C) (.type "BaseException") = some true
  hdC : PySem.W.hasDictIn K C = true
  noN : PySem.W.findIn K (.ref C) f = some none
/-- e.f, e the exception that the suite holds (at a; its class cls, its dict d) -/
def tFldE (C : Addr) (f : Str) (a : Addr) (cls : Value) (d : Option Addr) (te : TE) : TE := fun σ H Q => te σ H fun x H1 => x = .ref a ∧ cls = .ref C ∧ ∃ (dd : Addr) (v : V), d = some dd ∧ H1 dd = some (.xd [(f, v)]) ∧ Q v H1
theorem pe_fldE {X : Cx} {C : Addr} {f : Str} {a : Addr} {oe : Obj} {cls : Value} {d : Option Addr} {pn : List (Addr × Obj)} {e : Expr} {te : TE} {pos : Pos} (T : EFld X.K C f) (hz : Zc cls d oe) (hf : ∃ vs, oe.data = .fields vs) (he : PE (X.suite a ((a, oe) :: pn)) e te)
    (hb : attributeBase e f X.env (eval e X.env) = eval e X.env := by rfl) :
    PE (X.suite a ((a, oe) :: pn)) (.Attribute e f pos) (tFldE C f a cls d te) := by
  refine ⟨fun pins s σ H Q I h => ?_⟩
  refine attr_of hb (thn (he.run pins s σ H _ I h) fun u s1 hh => ?_)
  obtain ⟨x, H1, I1, rx, ex, ec, dd, v, ed, ea, q⟩ := hh
  subst ex
  obtain rfl : u = Value.ref a := rx
  subst ec
  subst ed
  obtain ⟨ha, _⟩ := I1.pin (a, oe) (List.mem_append_left _ List.mem_cons_self)
  obtain ⟨vs, hd⟩ := hf
  have hx : ObjOk X.prog X.w H1 s1.heap dd (.xd [(f, v)]) := I1.hok dd _ ea
  obtain ⟨mA, hns, hr⟩ := hx
  obtain ⟨od, ho, hl⟩ := lookIn_ns hns
  have l : List.lookup f [(f, v)] = some v := by simp [List.lookup]
  obtain ⟨u, hu, ru⟩ := RelO.some_of (v := v) (o := mA f) (by rw [← l]; exact hr f)
  have J : PySem.W.InstAt s1.heap a oe C (some od) := ⟨ha, hz.1, by unfold PySem.W.notCls; rw [hd] <;> rfl, by rw [hz.2]; exact ho⟩
  exact PySem.HandSPX.exc_get I1.kIn J T.ga T.gg T.exC (PySem.W.findObj_own T.hdC T.noN rfl (by rw [hl, hu])) (handed_of ru) ⟨v, H1, I1.tok _, ru, q⟩
/-- an exception of the class at S is (or is not) what «except C» names -/
theorem exm_of {K : PySem.W.Frag} {S C : Addr} {b : Bool} (h1 : PySem.W.subIn K (.ref C) (.type "BaseException") = some true) (h2 : PySem.W.isClsIn K C = true) (h3 : PySem.W.typeIn K (.ref C) = some (.type "type")) (h4 : PySem.W.subIn K (.ref S) (.ref C) = some b) :
    PySem.W.exmOne K (.ref S) (.ref C) = some b := by
  have e1 : (PySem.W.subIn K (.ref C) (.type "BaseException") == some true) = true := by rw [h1] <;> rfl
  have e2 : ((PySem.W.clsIn K C).isSome && PySem.W.typeIn K (.ref C) == some (.type "type")) = true := by
    have h2' : (PySem.W.clsIn K C).isSome = true := h2
    rw [h2', h3] <;> rfl
  show (if (PySem.W.subIn K (.ref C) (.type "BaseException") == some true) = true then (if ((PySem.W.clsIn K C).isSome && PySem.W.typeIn K (.ref C) == some (.type "type")) = true then PySem.W.subIn K (.ref S) (.ref C) else none) else none) = some b
  rw [if_pos e1, if_pos e2]
  exact h4
end K28
end
section
set_option Elab.async false
set_option linter.all false
set_option maxRecDepth 100000
set_option maxHeartbeats 4000000
/-! enumerate(tuple) -/
namespace PySem
open Sem (wp)
theorem k28_meets_enum {v : Value} {o : Obj} {H : Heap → Prop} (B : Begins v o H) :
    Meets (Builtin.«enumerate.__new__» ⟨[.type "enumerate", v], []⟩) (fun _ R s => H s.heap ∧
      R (.ok (.ret (.ref (s.heap.push o).objs.size))) { s with heap := (s.heap.push o).push { cls := .type "enumerate", data := .fields #[.none, .bool false, .ref s.heap.objs.size, rawInt 0, .none, .none] } }) :=
  .of_wp fun prog w A R s h => by
    obtain ⟨hp, g, d, tk, os⟩ := s; obtain ⟨h1, h⟩ := h
    have hsub := sub_enumerate
    have q1 : ∀ {A' : Around} {E : Value → Shared → Prop} {Q : Value → Shared → Prop}, Q (.ref hp.objs.size) ⟨hp.push o, g, d, tk, os⟩ → wpAny (model prog w) A' (pyIter v) Q E ⟨hp, g, d, tk, os⟩ :=
      fun q => B.iter prog w _ _ ⟨hp, g, d, tk, os⟩ _ h1 q
    wp_walk using q1
    refine wpAny_stack_any fun st => wpAny_pure ?_
    split
    · rename_i c _ _ _ _ _
      cases (c == Value.type "enumerate")
      · wp_walk using q1
        exact ⟨_, rfl, h⟩
      · wp_walk using q1
        exact ⟨_, rfl, h⟩
    · wp_walk using q1
      exact ⟨_, rfl, h⟩
theorem k28_call_enum {prog : Program} {w : World} {A : Around} {E : Value → Shared → Prop} {s : Shared} {v : Value} {o : Obj} {H : Heap → Prop} {Q : Value → Shared → Prop} (B : Begins v o H) (h1 : H s.heap)
    (h : ∀ h', IsEnum h' (s.heap.objs.size + 1) s.heap.objs.size 0 .none → h'.get? s.heap.objs.size = some o → h'.objs.size = s.heap.objs.size + 2 →
      (∀ b o, s.heap.get? b = some o → h'.get? b = some o) → Q (.ref (s.heap.objs.size + 1)) { s with heap := h' }) :
    wpAny (model prog w) A (call (.type "enumerate") [v]) Q E s := by
  refine callType_new F.called_enumerate (by decide) (F.typeCall_enumerate_1 _) (F.newCall_enumerate_1 _) (fun obj => F.args_object_init_2 obj _) F.entry_enumerate_new
    (k28_meets_enum B) ⟨h1, ?_⟩
  have hz : (s.heap.push o).objs.size = s.heap.objs.size + 1 := Heap.size_push ..
  show _ ∧ _
  rw [hz]
  have he : IsEnum ((s.heap.push o).push { cls := .type "enumerate", data := .fields #[.none, .bool false, .ref s.heap.objs.size, rawInt 0, .none, .none] }) (s.heap.objs.size + 1) s.heap.objs.size 0 .none := by
    have := Heap.get?_push_size (s.heap.push o) (o := { cls := .type "enumerate", data := .fields #[.none, .bool false, .ref s.heap.objs.size, rawInt 0, .none, .none] }) rfl
    rw [hz] at this; exact this
  refine ⟨⟨_, he, rfl⟩, h _ he (Heap.get?_push_of_some _ (Heap.get?_push_size _ B.free)) (by rw [Heap.size_push, hz]) fun b o x => Heap.get?_push_of_some _ (Heap.get?_push_of_some _ x)⟩
theorem k28_enum_endT {prog : Program} {w : World} {A : Around} {E : Value → Shared → Prop} {s : Shared} {e it a : Addr} {i : Nat} {items : Array Value} {old : Value} {Q : Option Value → Shared → Prop} (hh : A.handled = none)
    (he : IsEnum s.heap e it i old) (hit : s.heap.IsTupleIter it a i) (ht : s.heap.IsTuple a items) (hx : items[i]? = none)
    (hQ : ∀ h', Heap.ExtBut it s.heap h' → Q none { s with heap := h' }) : wpAny (model prog w) A (pyNext (.ref e)) Q E s := by
  have hT : s.TypeIs (.ref e) "enumerate" := ⟨_, he, rfl⟩
  unfold pyNext
  refine wpAny_bind (wpAny_attempt (wpAny_callSpecial?_slot (name := Str.ofString "__next__") hT F.slot_enumerate_next
    (wpAny_call_entry F.slot_enumerate_next hT F.entry_enumerate_next ?_ (F.args_enumerate_next_1 _))))
  show wpAny _ _ (field (.ref e) 2 >>= _) _ _ _
  refine wpAny_bind (wpAny_field he rfl (x := .ref it) rfl ?_)
  refine wpAny_bind (wpAny_nextOf_tuple_end hh hit ht hx fun h' x he' hx' => ?_)
  obtain ⟨o, ho, hc⟩ := hx'
  refine wpAny_bind (wpAny_isInstance (T := "StopIteration") (b := true) ⟨o, ho, hc⟩ isSubtype_stop ?_)
  exact wpAny_pure (hQ _ he')
end PySem
namespace K28
open PySem PySem.Spec PyProof.Rows L2
def IteT (K : PySem.W.Frag) (a : Addr) : It :=
  ⟨fun i H => ∃ (xs : List V) (x : V), SqT K H a xs ∧ xs[i]? = some x, fun i H v H' => ∃ T x, v = .ref T ∧ H T = none ∧ H' = upd H T (.tup [.int (i : Nat), x]) ∧ ∀ xs, SqT K H a xs → xs[i]? = some x, fun i H => ∃ xs : List V, SqT K H a xs ∧ xs.length ≤ i⟩
theorem turn_enumT {P : Program} {w : World} {K : PySem.W.Frag} {elts : List Expr} {kk : Nat} {tpos : Pos} (a e it : Addr) :
    Turn P w K (.Tuple elts kk tpos) (IteT K a) [e, it] e (fun i h => (∃ old, IsEnum h e it ((i : Nat) : Int) old) ∧ h.IsTupleIter it a i ∧ e ≠ it ∧ e ≠ a ∧ a ≠ it) where
  mem := by simp
  obj := fun i h st b hb => by
    obtain ⟨⟨old, he⟩, ⟨o, ho, hc, hd⟩, _⟩ := st
    have e' : b = e ∨ b = it := by simpa using hb
    rcases e' with z | z
    · rw [z]; exact ⟨_, he, fun v q => nomatch q⟩
    · rw [z]; exact ⟨o, ho, fun v q => by rw [hd] at q; cases q⟩
  keep := fun i h h' st k => let ⟨⟨old, he⟩, hi, hne⟩ := st; ⟨⟨old, k e (by simp) _ he⟩, hi.at fun o q => k it (by simp) o q, hne⟩
  item := by
    intro X hP hw hK hc i pins s σ H E I hf st hg
    subst hP hw hK
    obtain ⟨⟨old, he⟩, hit, hne, hea, hai⟩ := st
    obtain ⟨xs, x, hq, hx⟩ := hg
    obtain ⟨its, rv, p, hz⟩ := I.tuple hq
    obtain ⟨u, hu, ru⟩ := rv.get hx
    have hel : e < s.heap.objs.size := Heap.lt_size he
    have hil : it < s.heap.objs.size := by obtain ⟨_, q, _⟩ := hit; exact Heap.lt_size q
    have hlt : i < its.toArray.size := by
      have := (List.getElem?_eq_some_iff.mp hu).1
      simpa using this
    refine wpAny_pyNext_enum_itemD (Draws.tuple (prog := X.prog) (w := X.w) (A := X.A.in1) (I.ok.hd hc) it a hai its.toArray) he ⟨hit, p⟩ hlt hne (by simp [hne, hea]) fun u' h' tk hP ho hst hT hsz hk => ?_
    have eu : u' = u := by
      have : its.toArray[i]? = some u := by simpa using hu
      rw [this] at hP
      exact (Option.some.inj hP).symm
    subst eu
    refine ⟨_, rfl, wpAny_letOwnedTupleGo_enum (s := { s with heap := h', toks := tk + 1 }) ho fun h'' he' sb => ?_⟩
    have hT2 : h''.get? s.heap.objs.size = some { cls := .type "tuple", data := .seq #[.int i tk, u'] } := (sb.2 _ (Nat.ne_of_gt hel)).trans hT
    have new : ObjOk X.prog X.w (upd H s.heap.objs.size (.tup [.int (i : Nat), x])) h'' s.heap.objs.size (.tup [.int (i : Nat), x]) :=
      ⟨by show 2 ≤ sizeLine; decide, [.int i tk, u'], .cons ⟨_, rfl⟩ (.cons ru .nil), ⟨_, hT2, rfl, _, rfl⟩⟩
    have I1 : Inv X pins σ (upd H s.heap.objs.size (.tup [.int (i : Nat), x])) { s with heap := h'', toks := tk + 1 } :=
      I.turnedNew (ch := [e, it]) (fun b ob hb q => (sb.2 b (fun z => hb (by simp [z]))).trans (hk b ob (fun z => hb (by simp [z])) (fun z => hb (by simp [z])) q)) hf (Nat.le_refl _) new
    refine ⟨.ref s.heap.objs.size, _, I1, rfl, ⟨_, x, rfl, I.hok.fresh (Nat.le_refl _), rfl, fun ys hy => by rw [I.tuple_inj hy hq]; exact hx⟩, ⟨⟨u', ?_⟩, hst.1.at fun o q => (sb.2 it (Ne.symm hne)).trans q, hne, hea, hai⟩, fun b hb => ?_⟩
    · have e1 : ((i + 1 : Nat) : Int) = (i : Int) + 1 := by omega
      rw [e1]; exact he'
    · have hb' : b < s.heap.objs.size := by
        have e' : b = e ∨ b = it := by simpa using hb
        rcases e' with z | z
        · rw [z]; exact hel
        · rw [z]; exact hil
      rw [upd_ne (Nat.ne_of_lt hb')]
      exact (hf b hb).1
  done := by
    intro X hP hw hK hc i pins s σ H E I hf st hg
    subst hP hw hK
    obtain ⟨⟨old, he⟩, hit, hne, hea, hai⟩ := st
    obtain ⟨xs, hq, hx⟩ := hg
    obtain ⟨its, rv, p, hz⟩ := I.tuple hq
    obtain ⟨f0, f1, f2, f3, f4, f5⟩ := hf it (by simp)
    have hl := rv.length
    have hn : its.toArray[i]? = none := by simp; omega
    exact k28_enum_endT (I.ok.hd hc) he hit p hn fun h' eb => ⟨rfl, I.turned (t' := s.toks) (fun b o hb q => eb b o hb q) f0 f1 f3 f4 f5⟩
  self := fun A i s Q E st h => let ⟨⟨_, he⟩, _⟩ := st; wpAny_pyIter_enum he h
def iEnumT (K : PySem.W.Frag) (ta : TA) : TI := fun σ H R => ta σ H fun vs H1 => ∃ a xs, vs = [.ref a] ∧ SqT K H1 a xs ∧ R (IteT K a) H1
theorem pi_enumT {X : Cx} {e : Expr} {ta : TA} {p pos tpos : Pos} {elts : List Expr} {kk : Nat} (hg : Gl X "enumerate") (hm : X.mg "enumerate" = none) (ha : PA X [e] ta) (hs : starEach [e] X.env = [(false, eval e X.env)] := by rfl) :
    PI X (.Tuple elts kk tpos) (.Call (.Name "enumerate" p) [e] [] pos) (iEnumT X.K ta) := by
  refine ⟨fun pins s σ H R I h => ?_⟩
  refine Call_ (ld_blt I hg hm boot_enumerate (PyProof.Rows.callWith_type1 (thn (ha.run pos pins s σ H _ I h) fun us s1 ⟨vs, H1, I1, r1, q1⟩ => ?_) hs rfl))
  obtain ⟨a, xs, ex, hq, q⟩ := q1
  subst ex
  cases r1 with
  | cons r rr =>
    cases rr
    cases r
    obtain ⟨its, rv, p', hz⟩ := I1.tuple hq
    refine k28_call_enum (begins_tuple a its.toArray) p' fun h' he hit hsz hk => wpAny_pyIter_enum he ?_
    have I2 : Inv X pins σ H1 { s1 with heap := h' } := I1.kept (t' := s1.toks) hk
    have hal : a < s1.heap.objs.size := by obtain ⟨_, q, _⟩ := p'; exact Heap.lt_size q
    refine ⟨s1.heap.objs.size + 1, [s1.heap.objs.size + 1, s1.heap.objs.size], _, _, H1, rfl, I2, turn_enumT a (s1.heap.objs.size + 1) s1.heap.objs.size, ⟨⟨.none, he⟩, ⟨_, hit, rfl, rfl⟩, Nat.succ_ne_self _, Nat.ne_of_gt (Nat.lt_succ_of_lt hal), Nat.ne_of_lt hal⟩, fun b hb => ?_, q⟩
    have e' : b = s1.heap.objs.size + 1 ∨ b = s1.heap.objs.size := by simpa using hb
    have hle : s1.heap.objs.size ≤ b := by
      rcases e' with z | z
      · rw [z]; exact Nat.le_add_right _ _
      · rw [z]; exact Nat.le_refl _
    exact I1.fpOk hle (I1.hok.fresh hle)
theorem wk_enumT {K : PySem.W.Frag} {a : Addr} {xs : List V} : Walk (IteT K a) xs.length (fun H => SqT K H a xs) (YPair (fun i => some (.int (i : Nat))) (fun i => xs[i]?)) := by
  refine ⟨fun i _ hi q => ⟨xs, xs[i], q, by simp [hi]⟩, fun _ q => ⟨xs, q, Nat.le_refl _⟩, fun i H v H' _ q y => ?_⟩
  obtain ⟨T, x, h1, h2, h3, h4⟩ := y
  exact ⟨T, .int (i : Nat), x, h1, h2, h3, rfl, h4 xs q⟩
/-! a list or a tuple walked; enumerated -/
def Cell (a : Addr) (G : Hp → Prop) : Prop := ∀ H H' : Hp, (∀ o, H a = some o → H' a = some o) → G H → G H'
theorem Cell.ex {a : Addr} {G : Hp → Prop} (c : Cell a G) {H H' : Hp} (e : Evl.Ex H H') (g : G H) : G H' := c H H' (fun o h => e a o h) g
theorem cell_l {K : PySem.W.Frag} {a : Addr} {xs : List V} : Cell a fun H => SqL K H a xs := fun H H' e h => by
  rcases h with (h | ⟨o, h⟩) | h
  · exact .inl (.inl (e _ h))
  · exact .inl (.inr ⟨o, e _ h⟩)
  · exact .inr h
theorem cell_t {K : PySem.W.Frag} {a : Addr} {xs : List V} : Cell a fun H => SqT K H a xs := fun H H' e h => by
  rcases h with (h | ⟨o, h⟩) | h
  · exact .inl (.inl (e _ h))
  · exact .inl (.inr ⟨o, e _ h⟩)
  · exact .inr h
theorem cell_a {K : PySem.W.Frag} {a : Addr} {xs : List V} : Cell a fun H => SqA K H a xs := fun H H' e h => h.imp (cell_l H H' e) (cell_t H H' e)
def iSeq (K : PySem.W.Frag) (te : TE) : TI := fun σ H R => te σ H fun x H1 => ∃ a xs, x = V.ref a ∧ SqA K H1 a xs ∧ ∀ J G, Walk J xs.length G (YAt xs) → Cell a G → G H1 → R J H1
def iEnumA (K : PySem.W.Frag) (te : TE) : TI := fun σ H R => te σ H fun x H1 => ∃ a xs, x = V.ref a ∧ SqA K H1 a xs ∧ ∀ J G, Walk J xs.length G (YPair (fun i => some (.int (i : Nat))) (fun i => xs[i]?)) → Cell a G → G H1 → R J H1
section
variable {X : Cx} {tg : Expr}
theorem pi_seq {l : Expr} {tl : TE} (hl : PE X l tl) : PI X tg l (iSeq X.K tl) := by
  refine ⟨fun pins s σ H R I h => ?_⟩
  refine thn (hl.run pins s σ H _ I h) fun v s1 ⟨x, H1, I1, r1, q1⟩ => ?_
  obtain ⟨a, xs, e, hq, q⟩ := q1
  subst e
  cases r1
  rcases hq with hq | hq
  · obtain ⟨its, rv, p, hz⟩ := I1.list hq
    refine wpAny_pyIter_list p.isList ?_
    refine ⟨s1.heap.objs.size, [s1.heap.objs.size], _, _, H1, rfl, I1.kept (t' := s1.toks) fun b o e => Heap.get?_push_of_some _ e, turn_list a _, ⟨_, Heap.get?_push_size _ rfl, rfl, rfl⟩, fun b hb => ?_, q _ _ walk_list cell_l hq⟩
    have e : b = s1.heap.objs.size := by simpa using hb
    subst e
    exact I1.fpOk (Nat.le_refl _) (I1.hok.fresh (Nat.le_refl _))
  · obtain ⟨its, rv, p, hz⟩ := I1.tuple hq
    refine wpAny_pyIter_tuple (show s1.heap.IsTuple a its.toArray from p) ?_
    refine ⟨s1.heap.objs.size, [s1.heap.objs.size], _, _, H1, rfl, I1.kept (t' := s1.toks) fun b o e => Heap.get?_push_of_some _ e, turn_tuple a _, ⟨_, Heap.get?_push_size _ rfl, rfl, rfl⟩, fun b hb => ?_, q _ _ walk_tup cell_t hq⟩
    have e : b = s1.heap.objs.size := by simpa using hb
    subst e
    exact I1.fpOk (Nat.le_refl _) (I1.hok.fresh (Nat.le_refl _))
theorem pi_enumA {e : Expr} {te : TE} {p pos tpos : Pos} {elts : List Expr} {kk : Nat} (hg : Gl X "enumerate") (hm : X.mg "enumerate" = none) (ha : PE X e te) (hs : starEach [e] X.env = [(false, eval e X.env)] := by rfl) :
    PI X (.Tuple elts kk tpos) (.Call (.Name "enumerate" p) [e] [] pos) (iEnumA X.K te) := by
  have ha' : PA X [e] (tCons te tNil) := pa_cons ha pa_nil (by rw [hs]; rfl)
  refine ⟨fun pins s σ H R I h => ?_⟩
  refine Call_ (ld_blt I hg hm boot_enumerate (PyProof.Rows.callWith_type1 (thn (ha'.run pos pins s σ H (fun vs H1 => ∃ a xs, vs = [V.ref a] ∧ SqA X.K H1 a xs ∧ ∀ J G, Walk J xs.length G (YPair (fun i => some (.int (i : Nat))) (fun i => xs[i]?)) → Cell a G → G H1 → R J H1) I ?_) fun us s1 ⟨vs, H1, I1, r1, q1⟩ => ?_) hs rfl))
  · show te σ H fun x H1 => ∃ a xs, [x] = [V.ref a] ∧ _
    have : (fun (x : V) (H1 : Hp) => ∃ a xs, x = V.ref a ∧ SqA X.K H1 a xs ∧ ∀ J G, Walk J xs.length G (YPair (fun i => some (.int (i : Nat))) (fun i => xs[i]?)) → Cell a G → G H1 → R J H1) = (fun (x : V) (H1 : Hp) => ∃ a xs, [x] = [V.ref a] ∧ SqA X.K H1 a xs ∧ ∀ J G, Walk J xs.length G (YPair (fun i => some (.int (i : Nat))) (fun i => xs[i]?)) → Cell a G → G H1 → R J H1) := by
      funext x H1
      simp
    rw [← this]
    exact h
  obtain ⟨a, xs, ex, hq, q⟩ := q1
  subst ex
  cases r1 with
  | cons r rr =>
    cases rr
    cases r
    have fin : ∀ {it : Addr} {h' : Heap}, ∀ b ∈ [s1.heap.objs.size + 1, s1.heap.objs.size], s1.heap.objs.size ≤ b := fun b hb => by
      have e' : b = s1.heap.objs.size + 1 ∨ b = s1.heap.objs.size := by simpa using hb
      rcases e' with z | z
      · rw [z]; exact Nat.le_add_right _ _
      · rw [z]; exact Nat.le_refl _
    rcases hq with hq | hq
    · obtain ⟨its, rv, p', hz⟩ := I1.list hq
      refine call_enumerate_list p'.isList fun h' he hit hsz hk => wpAny_pyIter_enum he ?_
      have I2 : Inv X pins σ H1 { s1 with heap := h' } := I1.kept (t' := s1.toks) hk
      exact ⟨s1.heap.objs.size + 1, [s1.heap.objs.size + 1, s1.heap.objs.size], _, _, H1, rfl, I2, turn_enum a (s1.heap.objs.size + 1) s1.heap.objs.size, ⟨⟨.none, he⟩, hit, Nat.succ_ne_self _⟩,
        fun b hb => I1.fpOk (fin (it := a) (h' := h') b hb) (I1.hok.fresh (fin (it := a) (h' := h') b hb)), q _ _ walk_enum cell_l hq⟩
    · obtain ⟨its, rv, p', hz⟩ := I1.tuple hq
      refine k28_call_enum (begins_tuple a its.toArray) p' fun h' he hit hsz hk => wpAny_pyIter_enum he ?_
      have I2 : Inv X pins σ H1 { s1 with heap := h' } := I1.kept (t' := s1.toks) hk
      have hal : a < s1.heap.objs.size := by obtain ⟨_, q, _⟩ := p'; exact Heap.lt_size q
      exact ⟨s1.heap.objs.size + 1, [s1.heap.objs.size + 1, s1.heap.objs.size], _, _, H1, rfl, I2, turn_enumT a (s1.heap.objs.size + 1) s1.heap.objs.size, ⟨⟨.none, he⟩, ⟨_, hit, rfl, rfl⟩, Nat.succ_ne_self _, Nat.ne_of_gt (Nat.lt_succ_of_lt hal), Nat.ne_of_lt hal⟩,
        fun b hb => I1.fpOk (fin (it := a) (h' := h') b hb) (I1.hok.fresh (fin (it := a) (h' := h') b hb)), q _ _ wk_enumT cell_t hq⟩
end
end K28
end
section
set_option Elab.async false
set_option linter.all false
set_option maxRecDepth 100000
set_option maxHeartbeats 4000000
namespace K28
open PySem PySem.Spec PyProof.Rows L2
open Evl (Ex)
/-- an own exception, by its name -/
structure Exc (P : Program) (w : World) (K : PySem.W.Frag) (mg : Str → Option Value) (x : Str) (C : Addr) (f : Str) (Pv : V → Prop) : Prop where
  ex : ∃ D fI js jp, K28X.ETxt P K C D fI f (.JoinedStr js jp) ∧ ∀ v v', Pv v → RelV v v' → K28X.Says P w (.JoinedStr js jp) f v'
  g : mg x = some (.ref C)
  s : mg "super" = none
theorem ps_rs {X : Cx} {x : Str} {C : Addr} {f : Str} {Pv : V → Prop} {a : Expr} {ta : TA} {W : WX} {p pos pos2 : Pos} {k : Nat} (hc : X.calm = true) (T : Exc X.prog X.w X.K X.mg x C f Pv) (hr : Room k X.A) (tk : Takes X W) (ha : PA X [a] ta) (hg : Gl X x := by rfl)
    (he : starEach (a :: []) X.env = (false, eval a X.env) :: starEach [] X.env := by rfl) (hpl : (backTo pos (starEach [] X.env)).any (·.1) = false := by rfl) (hd : (x == ("__debug__" : Str)) = false := by decide) :
    PS X (.Raise (some (.Call (.Name x p) [a] [] pos)) none pos2) (tRaiseE C f Pv W ta) := by
  obtain ⟨D, fI, js, jp, E, S⟩ := T.ex
  exact ps_raiseE hc E T.g T.s S hr tk ha hg he hpl hd
def numV (v : V) : Prop := ∃ n : Int, v = .int n ∧ -1 ≤ n ∧ n ≤ 10
def wordV (v : V) : Prop := v = .str "deed"
def TabsAt (K : PySem.W.Frag) (CT : Addr) (H : Hp) (ts : List Addr) (bs : List (List Int × List Int × Int)) : Prop := ts.length = bs.length ∧ ∀ (i : Nat) t b, ts[i]? = some t → bs[i]? = some b → TabAt K CT H t b
theorem TabsAt.kp {K : PySem.W.Frag} {CT : Addr} {H H' : Hp} {ts : List Addr} {bs : List (List Int × List Int × Int)} (e : Kp H H') (h : TabsAt K CT H ts bs) : TabsAt K CT H' ts bs := ⟨h.1, fun i t b h1 h2 => (h.2 i t b h1 h2).kp e⟩
theorem TabsAt.ex {K : PySem.W.Frag} {CT : Addr} {H H' : Hp} {ts : List Addr} {bs : List (List Int × List Int × Int)} (e : Ex H H') (h : TabsAt K CT H ts bs) : TabsAt K CT H' ts bs := h.kp (.of e)
def endOf (b : List Int × List Int × Int) : Int := if b.2.1.length = 0 then (b.1.length : Int) else -1
/-- both parts of a table, as tuples of numbers -/
theorem TabAt.parts {K : PySem.W.Frag} {CT : Addr} {H : Hp} {t : Addr} {b : List Int × List Int × Int} (h : TabAt K CT H t b) : ∃ dx ah al, H t = some (.ins CT dx (tfs (.ref ah) (.ref al) b.2.2)) ∧ SqT K H ah (b.1.map V.int) ∧ SqT K H al (b.2.1.map V.int) := by
  obtain ⟨dx, vh, vl, h1, h2, h3⟩ := h
  obtain ⟨ah, rfl, qh⟩ := h2.ints
  obtain ⟨al, rfl, ql⟩ := h3.ints
  exact ⟨dx, ah, al, h1, qh, ql⟩
section
variable {P : Program} {w : World} {K : PySem.W.Frag} {mg : Str → Option Value} {base : Heap} {CT CM CB CF : Addr}
def spLens (K : PySem.W.Frag) (CT CB : Addr) : Sp := fun vs H Q E => ∃ (a : Addr) (ts : List Addr) (bs : List (List Int × List Int × Int)), vs = [.ref a] ∧ SqA K H a (ts.map V.ref) ∧ TabsAt K CT H ts bs ∧ bs.length ≤ 3 ∧ 0 < bs.length ∧
  (((∀ b ∈ bs, endOf b = endOf (bs.getD 0 ([], [], 0))) ∧ ∀ H', Ex H H' → Q .non H') ∨
   ((∃ b ∈ bs, endOf b ≠ endOf (bs.getD 0 ([], [], 0))) ∧ ∀ H' d, Ex H H' → H' d = none → E (.ref CB) (some d) (upd H' d (.xd [("number", .int (-1))]))))
abbrev s_check_lengths : Stmt := top 65
theorem sc_check_lengths : FnScope ["tables", "ends", "table", "end"] ["tables"] (defScope s_check_lengths) := ⟨rfl, rfl, rfl, by decide +kernel, rfl, by decide +kernel, by decide +kernel⟩
theorem ok_check_lengths {f : Addr} {fd : FuncData} (F : Fun K "check_lengths" "check_lengths" s_check_lengths f fd) (T : Txt K mg CT CM) (xc_BadTables : Exc P w K mg "BadTables" CB "number" numV) : FnOk P w K mg base (L2.CX P w) 3 f fd ["tables"] (spLens K CT CB) := by
  refine F.okX sc_check_lengths (fun vs H Q E h => ?_) (fun cdv A outer s H vs Q E hr h => ?_)
  · obtain ⟨_, _, _, rfl, _⟩ := h
    rfl
  · obtain ⟨a, ts, bs, rfl, hA, hT, h3, h0, q⟩ := h
    refine ⟨_, (pss_cons (ps_set (i := 1) sc_check_lengths.nd rfl (Or.inr rfl) (pe_lc (own := [("table", 2)]) (g := gName 2) (tt := tYes) rfl sc_check_lengths.nd (pi_seq (pv 0)) (blkOk_by (own := [("table", 2)]) (N := ["tables", "ends", "table", "end"]) (sc := defScope s_check_lengths) (by decide +kernel)) (fun _ _ _ _ _ => pg_name (i := 2) sc_check_lengths.nd rfl (Or.inl rfl)) (fun _ _ _ _ _ => pts_nil) (fun _ _ _ _ _ => (pe_ifExp (pt_cmpR op_eq (pe_callB (r := Evl.rLenS K) call_len_seq (by rfl) T.b_len PySem.boot_len (pa_cons (pe_fldK (K := K) (pv 2) rfl rfl) pa_nil)) pe_int (nomark _)) (pe_callB (r := Evl.rLenS K) call_len_seq (by rfl) T.b_len PySem.boot_len (pa_cons (pe_fldK (K := K) (pv 2) rfl rfl) pa_nil)) (pe_un un_neg pe_int)))))
      (pss_one (ps_if (pt_val (pe_callB (r := rAny K) (cr_any rfl) (by rfl) T.b_any (by decide +kernel) (pa_cons (pe_lc (own := [("end", 3)]) (g := gName 3) (tt := tYes) rfl sc_check_lengths.nd (pi_list (pv 1)) (blkOk_by (own := [("end", 3)]) (N := ["tables", "ends", "table", "end"]) (sc := defScope s_check_lengths) (by decide +kernel)) (fun _ _ _ _ _ => pg_name (i := 3) sc_check_lengths.nd rfl (Or.inl rfl)) (fun _ _ _ _ _ => pts_nil) (fun _ _ _ _ _ => (pe_cmpR op_ne (pv 3) (pe_ix (r := rIxL K) ix_list (pv 1) pe_int (fun _ _ => rfl)) (nomark _)))) pa_nil))) (pss_one (K28.ps_rs rfl xc_BadTables hr (takes_of rfl rfl rfl rfl) (pa_cons (pe_un un_neg pe_int) pa_nil))) pss_nil))), ?_⟩
    refine sq1 (as1 (lc_lb (j := 2) ?_))
    refine ⟨_, rfl, a, _, rfl, hA, fun J G wk ce g => lc_map wk (fun (i : Nat) y H => ∃ b, bs[i]? = some b ∧ y = .int (endOf b)) (fun _ _ e g => ce.ex e g) (fun _ _ _ _ _ r => r) g ?_ (fun i x H' Q' hi hx e' kk => ?_) ?_⟩
    · rw [List.length_map, hT.1]; omega
    · obtain ⟨t, ht, rfl⟩ := get_map hx
      have hi' : i < bs.length := by rw [List.length_map, hT.1] at hi; exact hi
      have hb : bs[i]? = some bs[i] := by simp [hi']
      obtain ⟨dx, ah, al, o1, o2, o3⟩ := ((hT.ex e').2 i t _ ht hb).parts
      refine ⟨_, rfl, t, CT, dx, _, _, rfl, o1, T.clT, T.t_loop, tfs_loop _ _ _, al, _, rfl, .inr o3, rfl, _, rfl, ?_⟩
      by_cases c : bs[i].2.1.length = 0
      · refine if_t ?_ ⟨_, rfl, t, CT, dx, _, _, rfl, o1, T.clT, T.t_head, tfs_head _ _ _, ah, _, rfl, .inr o2, kk _ _ Ex.r ⟨_, hb, ?_⟩⟩
        · rw [dInt]; exact decide_eq_true (by rw [List.length_map]; omega)
        · unfold endOf
          rw [if_pos c, List.length_map]
      · refine if_f ?_ ⟨_, rfl, kk _ _ Ex.r ⟨_, hb, ?_⟩⟩
        · rw [dInt]; exact decide_eq_false (by rw [List.length_map]; omega)
        · unfold endOf
          rw [if_neg c]
    · intro D ys H1 hl hD e1 hD1 hr1
      dsimp only
      have ey : ys = (bs.map endOf).map V.int := by
        rw [List.map_map]
        exact map_of (f := V.int ∘ endOf) (by rw [hl, List.length_map, hT.1]) fun i y hy => hr1 i y hy
      subst ey
      refine if1 (tb1 (cb1 (lc_lb (j := 3) ?_)))
      refine ⟨_, rfl, D, rfl, ⟨_, sq_l hD1⟩, lc_map wk_list (fun (i : Nat) y H => ∃ b, bs[i]? = some b ∧ y = .bl (decide (endOf b ≠ endOf (bs.getD 0 ([], [], 0))))) (fun _ _ e g => Evl.ex_l e g) (fun _ _ _ _ _ r => r) (sq_l hD1) (by rw [List.length_map, List.length_map]; omega) (fun i x H' Q' hi hx e' kk => ?_) ?_⟩
      · obtain ⟨z, hz, rfl⟩ := get_map hx
        rw [List.getElem?_map] at hz
        cases hb : bs[i]? with
        | none => rw [hb] at hz; cases hz
        | some b =>
          rw [hb] at hz
          obtain rfl := (Option.some.inj hz).symm
          have e0 : (bs.map endOf).getD 0 0 = endOf (bs.getD 0 ([], [], 0)) := by
            cases bs with
            | nil => simp at h0
            | cons b0 br => rfl
          refine ⟨_, rfl, _, rfl, D, _, _, _, rfl, rfl, Evl.ex_l e' (sq_l hD1), atI_int (i := 0) rfl (by rw [List.length_map]; exact h0), rfl, kk _ _ Ex.r ⟨b, hb, ?_⟩⟩
          rw [e0, dInt]
          by_cases c : endOf b = endOf (bs.getD 0 ([], [], 0)) <;> simp [c]
      · intro D2 ys2 H2 hl2 hDn e2 hD2 hr2
        have ey : ys2 = (bs.map fun b => decide (endOf b ≠ endOf (bs.getD 0 ([], [], 0)))).map V.bl := by
          rw [List.map_map]
          exact map_of (f := V.bl ∘ fun b => decide (endOf b ≠ endOf (bs.getD 0 ([], [], 0)))) (by rw [hl2, List.length_map, List.length_map]) fun i y hy => hr2 i y hy
        refine ⟨D2, _, rfl, sq_l (by rw [← ey]; exact hD2), _, rfl, ?_⟩
        rcases q with ⟨c, q⟩ | ⟨c, q⟩
        · refine if_f ?_ (q _ (e1.trans e2))
          rw [List.any_eq_false]
          intro x hx
          obtain ⟨b, hb, rfl⟩ := List.mem_map.mp hx
          simp [c b hb]
        · refine if_t ?_ ?_
          · rw [List.any_eq_true]
            obtain ⟨b, hb, hne⟩ := c
            exact ⟨true, List.mem_map.mpr ⟨b, hb, by simp only [decide_eq_true_eq]; exact hne⟩, rfl⟩
          · exact ⟨_, rfl, _, rfl, ⟨-1, rfl, by omega, by omega⟩, fun d hd => q _ d (e1.trans e2) hd⟩
end
end K28
end
section
set_option Elab.async false
set_option linter.all false
set_option maxRecDepth 100000
set_option maxHeartbeats 4000000
namespace K28
open PySem PySem.Spec PyProof.Rows L2
open Evl (Ex)
abbrev Raw := List Int × List Int × Int
def vb (b : Raw) (n : Nat) : Int := val b.1 b.2.1 b.2.2 n
/-- b tells a value at the place n + 1 -/
def tells (b : Raw) (n : Nat) : Prop := b.2.1 ≠ [] ∨ n < b.1.length
theorem valV_vb {b : Raw} {n : Nat} (h : tells b n) : valV b n = .int (vb b n) := valV_int h
/-- the deeds from what is taken to what is wanted, inlet by inlet -/
def dsOf : Nat → List Int → List Int → List (Option Nat)
  | k, t :: ts, w :: ws => List.replicate (w - t).toNat (some k) ++ dsOf (k + 1) ts ws
  | _, _, _ => []
theorem dsOf_app : ∀ (k : Nat) (as bs cs ds : List Int), as.length = bs.length → dsOf k (as ++ cs) (bs ++ ds) = dsOf k as bs ++ dsOf (k + as.length) cs ds
  | k, [], [], cs, ds, _ => by simp [dsOf]
  | k, [], b :: bs, cs, ds, h => by simp at h
  | k, a :: as, [], cs, ds, h => by simp at h
  | k, a :: as, b :: bs, cs, ds, h => by
    have := dsOf_app (k + 1) as bs cs ds (by simpa using h)
    simp only [List.cons_append, dsOf, this, List.append_assoc, List.length_cons]
    rw [show k + 1 + as.length = k + (as.length + 1) by omega]
theorem dsOf_step {k i : Nat} {ts ws : List Int} {t w : Int} (h : ts.length = ws.length) (ht : ts[i]? = some t) (hw : ws[i]? = some w) :
    dsOf k (ts.take (i + 1)) (ws.take (i + 1)) = dsOf k (ts.take i) (ws.take i) ++ List.replicate (w - t).toNat (some (k + i)) := by
  have hi : i < ts.length := (List.getElem?_eq_some_iff.mp ht).1
  rw [List.take_succ, List.take_succ, ht, hw]
  show dsOf k (ts.take i ++ [t]) (ws.take i ++ [w]) = _
  rw [dsOf_app _ _ _ _ _ (by rw [List.length_take, List.length_take, h])]
  have : (ts.take i).length = i := by rw [List.length_take]; omega
  rw [this]
  simp [dsOf]
theorem dsOf_le {k i : Nat} {ts ws : List Int} (h : ts.length = ws.length) : (dsOf k (ts.take i) (ws.take i)).length ≤ (dsOf k ts ws).length := by
  have := dsOf_app k (ts.take i) (ws.take i) (ts.drop i) (ws.drop i) (by rw [List.length_take, List.length_take, h])
  rw [List.take_append_drop, List.take_append_drop] at this
  rw [this, List.length_append]
  omega
theorem set_mid {α : Type} {ws ts : List α} {i : Nat} {w : α} (h : ws.length = ts.length) (hw : ws[i]? = some w) : (ws.take i ++ ts.drop i).set i w = ws.take (i + 1) ++ ts.drop (i + 1) := by
  have hi : i < ws.length := (List.getElem?_eq_some_iff.mp hw).1
  have h1 : (ws.take i).length = i := by rw [List.length_take]; omega
  have h2 : i < ts.length := by omega
  have e : ws.take (i + 1) = ws.take i ++ [w] := by rw [List.take_succ, hw]; rfl
  rw [List.set_append, if_neg (by omega), h1, Nat.sub_self, List.drop_eq_getElem_cons h2]
  simp only [List.set_cons_zero]
  rw [e, List.append_assoc]
  rfl
/-- all but the list at p is as it was -/
def But (p : Addr) (H H' : Hp) : Prop := ∀ a o, a ≠ p → H a = some o → H' a = some o
theorem But.r {p : Addr} {H : Hp} : But p H H := fun _ _ _ h => h
theorem But.of {p : Addr} {H H' : Hp} (e : Ex H H') : But p H H' := fun a o _ h => e a o h
theorem But.trans {p : Addr} {H H1 H2 : Hp} (a : But p H H1) (b : But p H1 H2) : But p H H2 := fun x o n h => b x o n (a x o n h)
theorem But.self {p : Addr} {H : Hp} {o : HO} : But p H (upd H p o) := fun a u n e => by rw [upd_ne n]; exact e
theorem But.mut {p q : Addr} {H0 H : Hp} {o : HO} (b : But p H0 H) (n : H0 q = none) : But p H0 (upd H q o) := fun a u na e => by
  rw [upd_ne (fun z => by rw [z, n] at e; cases e)]
  exact b a u na e
theorem But.kp {p : Addr} {H H' : Hp} {xs : List V} (b : But p H H') (h : H p = some (.lst xs)) : Kp H H' := fun a o e n => b a o (fun z => by rw [z, h] at e; exact n xs (Option.some.inj e).symm) e
theorem Cell.but {a p : Addr} {G : Hp → Prop} (c : Cell a G) (n : a ≠ p) {H H' : Hp} (b : But p H H') (g : G H) : G H' := c H H' (fun o h => b a o n h) g
section
variable {P : Program} {w : World} {K : PySem.W.Frag} {mg : Str → Option Value} {base : Heap} {CT CM CB CF : Addr}
def spTo (K : PySem.W.Frag) (CT CF : Addr) : Sp := fun vs H Q E => ∃ (a tk : Addr) (ts : List Addr) (bs : List Raw) (tks : List Int) (n : Nat), vs = [.ref a, .ref tk, .int ((n : Int) + 1)] ∧ SqA K H a (ts.map V.ref) ∧ (∃ o, H a = some o) ∧ a ≠ tk ∧ TabsAt K CT H ts bs ∧ bs.length ≤ 3 ∧
  (∀ b ∈ bs, SzR b ∧ tells b n) ∧ H tk = some (.lst (tks.map V.int)) ∧ tks.length = bs.length ∧
  (((∀ (i : Nat) b t, bs[i]? = some b → tks[i]? = some t → t ≤ vb b n) ∧ (dsOf 0 tks (bs.map (vb · n))).length ≤ 600 ∧
     ∀ H' d, But tk H H' → H' tk = some (.lst ((bs.map (vb · n)).map V.int)) → H d = none → H' d = some (.lst ((dsOf 0 tks (bs.map (vb · n)) ++ [none]).map dv)) → Q (.ref d) H') ∨
   (∃ b, bs = [b] ∧ tks = [0] ∧ 600 < vb b n ∧ ∀ H' d, Ex H H' → H' d = none → E (.ref CF) (some d) (upd H' d (.xd [("word", .str "deed")]))))
abbrev s_deeds_to : Stmt := top 66
theorem sc_deeds_to : FnScope ["tables", "taken", "place", "deeds", "inlet", "table", "wanted", "step"] ["tables", "taken", "place"] (defScope s_deeds_to) := ⟨rfl, rfl, rfl, by decide +kernel, rfl, by decide +kernel, by decide +kernel⟩
theorem ok_deeds_to {f : Addr} {fd : FuncData} (F : Fun K "deeds_to" "deeds_to" s_deeds_to f fd) (T : Txt K mg CT CM) (cl_Table : Clo P w K mg base 3 CT (spCall K CT)) (xc_TooMany : Exc P w K mg "TooMany" CF "word" wordV) : FnOk P w K mg base (L2.CX P w) 5 f fd ["tables", "taken", "place"] (spTo K CT CF) := by
  refine F.okX sc_deeds_to (fun vs H Q E h => ?_) (fun cdv A outer s H vs Q E hr h => ?_)
  · obtain ⟨_, _, _, _, _, _, rfl, _⟩ := h
    rfl
  · obtain ⟨a, tk, ts, bs, tks, n, rfl, hA, ⟨oa, hoa⟩, hat, hT, h3, hz, hk, hkl, q⟩ := h
    refine ⟨_, (pss_cons (ps_set (i := 3) sc_deeds_to.nd rfl (Or.inl rfl) (pe_lst pa_nil))
      (pss_cons (ps_for (passes_of rfl) rfl (pi_enumA rfl T.b_enumerate (pv 0)) (pg_tup rfl (pgs_cons (pg_name (i := 4) sc_deeds_to.nd rfl (Or.inr rfl)) (pgs_cons (pg_name (i := 5) sc_deeds_to.nd rfl (Or.inl rfl)) pgs_nil))) (pss_cons (ps_set (i := 6) sc_deeds_to.nd rfl (Or.inl rfl) (pe_tab cl_Table hr (by omega) (pv 5) (pa_cons (pv 2) pa_nil)))
      (pss_cons (ps_if (pt_cmpR op_gt (pe_op op_sub (pe_op op_add (pe_callB (r := Evl.rLenS K) call_len_seq (by rfl) T.b_len PySem.boot_len (pa_cons (pv 3) pa_nil)) (pv 6)) (pe_ix (r := rIxL K) ix_list (pv 1) (pv 4) (fun _ _ => rfl))) (C8.pe_gc rfl T.g_MOST_DEEDS) (nomark _)) (pss_one (K28.ps_rs rfl xc_TooMany hr (takes_of rfl rfl rfl rfl) (pa_cons pe_str pa_nil))) pss_nil)
      (pss_cons (ps_expr (pe_bm PySem.F.plainAttrs_list PySem.F.slot_list_extend PySem.F.type_list_extend mt_extend (pv 3) (pa_cons (pe_lc (own := [("step", 7)]) (g := gName 7) (tt := tYes) rfl sc_deeds_to.nd (pi_range1 rfl T.b_range (pa_cons (pe_op op_sub (pv 6) (pe_ix (r := rIxL K) ix_list (pv 1) (pv 4) (fun _ _ => rfl))) pa_nil)) (blkOk_by (own := [("step", 7)]) (N := ["tables", "taken", "place", "deeds", "inlet", "table", "wanted", "step"]) (sc := defScope s_deeds_to) (by decide +kernel)) (fun _ _ _ _ _ => pg_name (i := 7) sc_deeds_to.nd rfl (Or.inl rfl)) (fun _ _ _ _ _ => pts_nil) (fun _ _ _ _ _ => (pv 4))) pa_nil)))
      (pss_one (ps_asg (pv 6) (pg_sub (pv 1) (pv 4) set_list)))))))
      (pss_one (ps_ret (pe_op op_cat (pv 3) (pe_lst (pa_cons (C8.pe_gc rfl T.g_GIVE) pa_nil))))))), ?_⟩
    refine sq1 ⟨Nat.zero_le _, fun p hp => ?_⟩
    have e0 : Ex H (upd H p (.lst [])) := Evl.Ex.new hp
    have hp0 : upd H p (.lst []) p = some (.lst []) := upd_same
    generalize upd H p (.lst []) = H0 at *
    refine gn1 ?_
    dsimp only
    refine sq1 (fr_fb ?_)
    refine ⟨_, rfl, a, _, rfl, hA.ex e0, fun J G wk ce g => ?_⟩
    have wl : (bs.map (vb · n)).length = bs.length := List.length_map _
    have tl : (ts.map V.ref).length = bs.length := by rw [List.length_map]; exact hT.1
    rcases q with ⟨hle, h6, q⟩ | ⟨b, rfl, rfl, hw6, q⟩
    · refine for_it wk (fun i σ' H' => ∃ x4 x5 x6 : Option V, σ' = [some (.ref a), some (.ref tk), some (.int ((n : Int) + 1)), some (.ref p), x4, x5, x6, none] ∧ But tk H H' ∧ G H' ∧ H' tk = some (.lst (((bs.map (vb · n)).take i ++ tks.drop i).map V.int)) ∧ H' p = some (.lst ((dsOf 0 (tks.take i) ((bs.map (vb · n)).take i)).map dv)))
        ⟨none, none, none, rfl, .of e0, g, e0 _ _ hk, hp0⟩ (fun i σ' H' _ ⟨_, _, _, _, _, g, _⟩ => g) ?_ ?_
      · rintro i x σ' H1 H2 hi ⟨x4, x5, x6, rfl, b1, g1, k1, p1⟩ ⟨Tp, x, y, rfl, nT, rfl, hx, hy⟩
        obtain rfl := Option.some.inj hx
        obtain ⟨t, ht, rfl⟩ := get_map hy
        have hib : i < bs.length := by rw [tl] at hi; exact hi
        have hb : bs[i]? = some bs[i] := by simp [hib]
        generalize hbe : bs[i] = b at hb
        have hw : (bs.map (vb · n))[i]? = some (vb b n) := by rw [List.getElem?_map, hb]; rfl
        have hit : i < tks.length := by omega
        have htk : tks[i]? = some tks[i] := by simp [hit]
        generalize hte : tks[i] = t0 at htk
        have hmem := List.mem_of_getElem? hb
        obtain ⟨z1, z2⟩ := hz b hmem
        have hlt := hle i b t0 hb htk
        have e2 : Ex H1 (upd H1 Tp (.tup [.int (i : Nat), V.ref t])) := Evl.Ex.new nT
        have t2 : SqT K (upd H1 Tp (.tup [.int (i : Nat), V.ref t])) Tp [.int (i : Nat), V.ref t] := sq_t upd_same
        generalize upd H1 Tp (.tup [.int (i : Nat), V.ref t]) = H2 at *
        refine ⟨Tp, _, rfl, t2, rfl, _, _, rfl, _, _, rfl, rfl, ?_⟩
        try dsimp only
        have tb2 : TabAt K CT H2 t b := ((hT.kp (b1.kp hk)).ex e2).2 i t b ht hb
        obtain ⟨dx, ah, al, o1, o2, o3⟩ := tb2.parts
        refine sq1 ⟨_, rfl, t, rfl, _, rfl, ⟨dx, _, o1⟩, t, b, n, rfl, tb2, z1, fun H3 e3 => ?_⟩
        rw [valV_vb z2]
        have E13 := e2.trans e3
        have k3 := E13 _ _ k1
        have p3 := E13 _ _ p1
        have mid : (((bs.map (vb · n)).take i ++ tks.drop i).map V.int)[i]? = some (.int t0) := by
          rw [List.getElem?_map, List.getElem?_append_right (by rw [List.length_take]; omega), List.length_take, wl, Nat.min_eq_left (by omega), Nat.sub_self, List.getElem?_drop, Nat.add_zero, htk]
          rfl
        have hst := dsOf_step (k := 0) (ts := tks) (ws := bs.map (vb · n)) (by omega) htk hw
        have hle2 := dsOf_le (k := 0) (i := i + 1) (ts := tks) (ws := bs.map (vb · n)) (by omega)
        rw [hst, List.length_append, List.length_replicate] at hle2
        refine gn1 ?_
        try dsimp only
        refine sq1 ?_
        refine ⟨_, rfl, p, _, rfl, .inl (sq_l p3), _, rfl, _, _, rfl, rfl, _, rfl, _, rfl, tk, _, _, _, rfl, rfl, sq_l k3, atI_nat mid, _, _, rfl, rfl, _, _, rfl, rfl, _, rfl, ?_⟩
        refine if_f (decide_eq_false ?_) ?_
        · rw [List.length_map]; omega
        unfold tNext
        try dsimp only
        refine sq1 ⟨_, rfl, .inl ⟨rfl, _, sq_l p3⟩, ?_⟩
        refine cs1 (lc_lb (j := 7) ?_)
        refine ⟨_, rfl, _, rfl, _, rfl, tk, _, _, _, rfl, rfl, sq_l k3, atI_nat mid, _, _, rfl, rfl, _, rfl, by omega, by omega, lc_map wk_range (fun (_ : Nat) y H => y = .int (i : Int)) (fun _ _ _ _ => True.intro) (fun _ _ _ _ _ r => r) True.intro (by omega) (fun i' x' H' Q' hi' hx' e' kk => ?_) ?_⟩
        · exact ⟨_, rfl, kk _ _ Ex.r rfl⟩
        intro D ys H4 hl4 hD3 e4 hD4 hr4
        have p4 := e4 _ _ p3
        have k4 := e4 _ _ k3
        have E14 := E13.trans e4
        have npk : p ≠ tk := fun z => by rw [z, hk] at hp; cases hp
        have ey : ys = (List.replicate (vb b n - t0).toNat (some i)).map dv := by
          rw [List.map_replicate]
          exact List.eq_replicate_iff.mpr ⟨hl4, fun y hy => by
            obtain ⟨i', hi'⟩ := List.getElem?_of_mem hy
            exact hr4 i' y hi'⟩
        subst ey
        refine ⟨p, D, _, _, rfl, rfl, p4, hD4, Evl.sz_of (by rw [List.length_map, List.length_map, List.length_replicate]; omega), ?_⟩
        try dsimp only
        refine ⟨_, rfl, _, rfl, _, rfl, tk, _, i, i, rfl, rfl, by rw [upd_ne npk.symm]; exact k4, ?_, ?_⟩
        · unfold ixN
          rw [if_pos (by omega), if_pos (by rw [List.length_map, List.length_append, List.length_take, List.length_drop]; omega)]
          simp
        · have b14 : But tk H H4 := b1.trans (.of E14)
          refine ⟨_, _, _, rfl, ?_, ?_, ?_, ?_⟩
          · exact (b14.mut hp).trans But.self
          · refine ce.but hat But.self (ce _ _ (fun o h => ?_) (ce.ex E14 g1))
            have nap : a ≠ p := fun z => by
              rw [z, hp] at hoa
              cases hoa
            rw [upd_ne nap]; exact h
          · rw [upd_same, ← List.map_set, set_mid (by omega) hw]
          · rw [upd_ne npk, upd_same, hst, List.map_append, Nat.zero_add]
      · rintro σ' H' ⟨x4, x5, x6, rfl, b1, g1, k1, p1⟩
        rw [tl] at k1 p1
        rw [List.take_of_length_le (by omega), List.drop_of_length_le (by omega), List.append_nil] at k1
        rw [List.take_of_length_le (by omega), List.take_of_length_le (by omega)] at p1
        try dsimp only
        obtain ⟨gu, gm, gr⟩ := T.g_GIVE
        have npk : p ≠ tk := fun z => by rw [z, hk] at hp; cases hp
        refine ⟨_, rfl, (by show 1 ≤ sizeLine; decide), fun l hl => ?_⟩
        have el : Ex H' (upd H' l (.lst [.str "give"])) := Evl.Ex.new hl
        refine ⟨p, l, _, _, rfl, rfl, el _ _ p1, upd_same, Evl.sz_of (by rw [List.length_map]; show _ + 1 ≤ _; omega), fun d hd => ?_⟩
        have ed : Ex (upd H' l (.lst [.str "give"])) (upd (upd H' l (.lst [.str "give"])) d (.lst ((dsOf 0 tks (bs.map (vb · n))).map dv ++ [.str "give"]))) := Evl.Ex.new hd
        have E2 := el.trans ed
        refine q _ d (b1.trans (.of E2)) (E2 _ _ k1) ?_ ?_
        · cases e : H d with
          | none => rfl
          | some o =>
            by_cases c : d = tk
            · rw [c, el _ _ k1] at hd; cases hd
            · rw [el _ _ (b1 d o c e)] at hd; cases hd
        · rw [upd_same, List.map_append]
          rfl
    · refine for_it wk (fun i σ' H' => i = 0 ∧ σ' = [some (.ref a), some (.ref tk), some (.int ((n : Int) + 1)), some (.ref p), none, none, none, none] ∧ H' = H0) ⟨rfl, rfl, rfl⟩ (fun i σ' H' _ ⟨_, _, e⟩ => by rw [e]; exact g) ?_ ?_
      · rintro i x σ' H1 H2 hi ⟨rfl, rfl, rfl⟩ ⟨Tp, x, y, rfl, nT, rfl, hx, hy⟩
        obtain rfl := Option.some.inj hx
        obtain ⟨t, ht, rfl⟩ := get_map hy
        have hb : [b][0]? = some b := rfl
        obtain ⟨z1, z2⟩ := hz b List.mem_cons_self
        have e2 : Ex H1 (upd H1 Tp (.tup [.int ((0 : Nat) : Int), V.ref t])) := Evl.Ex.new nT
        have t2 : SqT K (upd H1 Tp (.tup [.int ((0 : Nat) : Int), V.ref t])) Tp [.int ((0 : Nat) : Int), V.ref t] := sq_t upd_same
        generalize upd H1 Tp (.tup [.int ((0 : Nat) : Int), V.ref t]) = H2 at *
        refine ⟨Tp, _, rfl, t2, rfl, _, _, rfl, _, _, rfl, rfl, ?_⟩
        try dsimp only
        have tb2 : TabAt K CT H2 t b := ((hT.ex e0).ex e2).2 0 t b ht hb
        obtain ⟨dx, ah, al, o1, o2, o3⟩ := tb2.parts
        refine sq1 ⟨_, rfl, t, rfl, _, rfl, ⟨dx, _, o1⟩, t, b, n, rfl, tb2, z1, fun H3 e3 => ?_⟩
        rw [valV_vb z2]
        have E13 := e2.trans e3
        have k3 := E13 _ _ (e0 _ _ hk)
        have p3 := E13 _ _ hp0
        refine gn1 ?_
        try dsimp only
        refine sq1 ?_
        refine ⟨_, rfl, p, _, rfl, .inl (sq_l p3), _, rfl, _, _, rfl, rfl, _, rfl, _, rfl, tk, _, _, _, rfl, rfl, sq_l k3, atI_nat (j := 0) rfl, _, _, rfl, rfl, _, _, rfl, rfl, _, rfl, ?_⟩
        refine if_t (decide_eq_true ?_) ?_
        · show (600 : Int) < ((0 : Nat) : Int) + vb b n - 0
          omega
        · exact ⟨_, rfl, rfl, fun d hd => q _ d (e0.trans E13) hd⟩
      · rintro σ' H' ⟨e, _⟩
        rw [tl] at e
        cases e
end
end K28
end
section
set_option Elab.async false
set_option linter.all false
set_option maxRecDepth 100000
set_option maxHeartbeats 4000000
namespace K28
open PySem PySem.Spec PyProof.Rows L2
open Evl (Ex)
def endsB (bs : List Raw) : Bool := decide ((bs.getD 0 ([], [], 0)).2.1.length = 0)
def startN (bs : List Raw) (mx : Nat) : Nat := mx + (if endsB bs = true then 0 else 1)
def manyP (bs : List Raw) : Nat := bs.foldl (fun m b => Nat.lcm m b.2.1.length) 1
def prevs (bs : List Raw) (n : Nat) : List Int := bs.map fun b => if n = 0 then 0 else vb b (n - 1)
def dAt (bs : List Raw) (n : Nat) : List (Option Nat) := dsOf 0 (prevs bs n) (bs.map (vb · n)) ++ [none]
def seg (bs : List Raw) (s m : Nat) : List (Option Nat) := ((List.range m).map fun i => dAt bs (s + i)).flatten
def mkrOf (bs : List Raw) (mx : Nat) : Mkr := ⟨bs.length, seg bs 0 (startN bs mx), if endsB bs = true then [some 0] else seg bs (startN bs mx) (manyP bs)⟩
/-- tables that a maker can follow -/
structure Fit (bs : List Raw) (mx : Nat) : Prop where
  al : ∀ b ∈ bs, endOf b = endOf (bs.getD 0 ([], [], 0))
  sz : ∀ b ∈ bs, SzR b
  mx1 : ∃ b ∈ bs, b.1.length = mx
  mx2 : ∀ b ∈ bs, b.1.length ≤ mx
  ml : mx ≤ 1000
  up : ∀ n, n < startN bs mx + (if endsB bs = true then 0 else manyP bs) → ∀ b ∈ bs, tells b n ∧ (if n = 0 then 0 else vb b (n - 1)) ≤ vb b n
  z1 : (seg bs 0 (startN bs mx)).length ≤ 600
  z2 : endsB bs = false → (seg bs (startN bs mx) (manyP bs)).length ≤ 600
  lm : endsB bs = false → ∀ i, i ≤ bs.length → 0 < manyP (bs.take i) ∧ manyP (bs.take i) ≤ 1000
theorem seg_succ (bs : List Raw) (s m : Nat) : seg bs s (m + 1) = seg bs s m ++ dAt bs (s + m) := by
  unfold seg
  rw [List.range_succ, List.map_append, List.flatten_append]
  simp
theorem seg_le (bs : List Raw) (s : Nat) : ∀ {i m : Nat}, i ≤ m → (seg bs s i).length ≤ (seg bs s m).length := by
  intro i m h
  induction m with
  | zero => rw [Nat.le_zero.mp h]; exact Nat.le_refl _
  | succ m ih =>
    by_cases c : i = m + 1
    · rw [c]; exact Nat.le_refl _
    · rw [seg_succ, List.length_append]
      have := ih (by omega)
      omega
theorem dsOf_ok : ∀ (k : Nat) (ts ws : List Int), ∀ d ∈ dsOf k ts ws, ∀ j, d = some j → j < k + ts.length
  | k, [], _, d, h, j, e => by simp [dsOf] at h
  | k, t :: ts, [], d, h, j, e => by simp [dsOf] at h
  | k, t :: ts, w :: ws, d, h, j, e => by
    rw [dsOf, List.mem_append] at h
    rcases h with h | h
    · obtain ⟨_, rfl⟩ := List.mem_replicate.mp h
      have := Option.some.inj e
      rw [List.length_cons]; omega
    · have := dsOf_ok (k + 1) ts ws d h j e
      rw [List.length_cons]; omega
theorem dAt_ok (bs : List Raw) (n : Nat) : DOk bs.length (dAt bs n) := by
  intro d hd k e
  unfold dAt at hd
  rcases List.mem_append.mp hd with h | h
  · have := dsOf_ok _ _ _ d h k e
    unfold prevs at this
    rw [List.length_map] at this
    omega
  · have := List.mem_singleton.mp h
    rw [this] at e; cases e
theorem seg_ok (bs : List Raw) (s m : Nat) : DOk bs.length (seg bs s m) := by
  intro d hd k e
  unfold seg at hd
  obtain ⟨l, hl, hd⟩ := List.mem_flatten.mp hd
  obtain ⟨i, _, rfl⟩ := List.mem_map.mp hl
  exact dAt_ok bs _ d hd k e
theorem seg_pos (bs : List Raw) (s m : Nat) (h : 0 < m) : 0 < (seg bs s m).length := by
  have := seg_le bs s (show 1 ≤ m from h)
  have e : (seg bs s 1).length = (dAt bs s).length := by simp [seg]
  have : 0 < (dAt bs s).length := by unfold dAt; simp
  omega
theorem prevs_succ (bs : List Raw) (n : Nat) : prevs bs (n + 1) = bs.map (vb · n) := by
  unfold prevs
  simp
theorem manyP_succ {bs : List Raw} {i : Nat} {b : Raw} (h : bs[i]? = some b) : manyP (bs.take (i + 1)) = Nat.lcm (manyP (bs.take i)) b.2.1.length := by
  unfold manyP
  rw [List.take_succ, h, List.foldl_append]
  rfl
theorem endOf_neg {b : Raw} : endOf b = -1 ↔ b.2.1.length ≠ 0 := by
  unfold endOf
  split <;> rename_i h
  · constructor
    · intro z; omega
    · intro z; exact absurd h z
  · exact ⟨fun _ => h, fun _ => rfl⟩
theorem But.exOf {p : Addr} {H H1 H2 : Hp} (e : Ex H H1) (n : H p = none) (b : But p H1 H2) : Ex H H2 := fun a o h => b a o (fun z => by rw [z, n] at h; cases h) (e a o h)
theorem if01 {c : Bool} {i : Nat} {σ : L2.St} {H : Hp} {R : VK} (hs : σ[i]? = some (some (.bl c))) (h : R (V.int (if c = true then 0 else 1)) H) : tIf (tB (tVar i)) (tC (.int 0)) (tC (.int 1)) σ H R := by
  refine ⟨_, hs, c, rfl, ?_⟩
  cases c
  · exact h
  · exact h
theorem op1 {r : R2} {ta tb : TE} {σ : L2.St} {H : Hp} {Q : VK} (h : ta σ H fun x H1 => tb σ H1 fun y H2 => r x y H2 Q) : tOp r ta tb σ H Q := h
section
variable {P : Program} {w : World} {K : PySem.W.Frag} {mg : Str → Option Value} {base : Heap} {CT CM CB CF : Addr}
def exNum (CB : Addr) (n : Int) (H : Hp) (E : XK) : Prop := ∀ H' d, Ex H H' → H' d = none → E (.ref CB) (some d) (upd H' d (.xd [("number", .int n)]))
def spMk (K : PySem.W.Frag) (CT CM CB CF : Addr) : Sp := fun vs H Q E => ∃ x, vs = [x] ∧ (
  (∃ T b, TyX K H x (.type T) ∧ PySem.W.kitAny K (.type T) [.type "tuple", .type "list"] = some b ∧ (b = false ∨ ∃ a ys, x = .ref a ∧ SqA K H a ys ∧ ¬ (1 ≤ ys.length ∧ ys.length ≤ 3)) ∧ exNum CB (-1) H E) ∨
  (∃ a ys, x = .ref a ∧ SqA K H a ys ∧ (∃ o, H a = some o) ∧ 1 ≤ ys.length ∧ ys.length ≤ 3 ∧ (
    (∃ (k : Nat) (y : V) (T : String), ys[k]? = some y ∧ TyX K H y (.type T) ∧ PySem.W.kitOne K (.type T) (.ref CT) = some false ∧ (∀ j, j < k → ∃ t b, ys[j]? = some (.ref t) ∧ TabAt K CT H t b) ∧ exNum CB (k : Int) H E) ∨
    (∃ (ts : List Addr) (bs : List Raw), ys = ts.map V.ref ∧ TabsAt K CT H ts bs ∧ (
      ((∃ b ∈ bs, endOf b ≠ endOf (bs.getD 0 ([], [], 0))) ∧ exNum CB (-1) H E) ∨
      (∃ mx, Fit bs mx ∧ ∀ H' p, Ex H H' → MakAt K CM H' p (mkrOf bs mx) → Q (.ref p) H') ∨
      (∃ v r, bs = [([], [v], r)] ∧ 600 < v ∧ SzR ([], [v], r) ∧ ∀ H' d, Ex H H' → H' d = none → E (.ref CF) (some d) (upd H' d (.xd [("word", .str "deed")]))))))))
theorem call_to {H8 : Hp} {a tk : Addr} {ts : List Addr} {bs : List Raw} {mx n : Nat} {Q : VK} {E : XK} (hA : SqA K H8 a (ts.map V.ref)) (hoa : ∃ o, H8 a = some o) (hat : a ≠ tk) (hT : TabsAt K CT H8 ts bs) (h3 : bs.length ≤ 3) (ft : Fit bs mx)
    (hn : n < startN bs mx + (if endsB bs = true then 0 else manyP bs)) (h6 : (dAt bs n).length ≤ 600) (hk : H8 tk = some (.lst ((prevs bs n).map V.int)))
    (q : ∀ H9 d, But tk H8 H9 → H9 tk = some (.lst ((prevs bs (n + 1)).map V.int)) → H8 d = none → H9 d = some (.lst ((dAt bs n).map dv)) → Q (.ref d) H9) : spTo K CT CF [.ref a, .ref tk, .int ((n : Int) + 1)] H8 Q E := by
  refine ⟨a, tk, ts, bs, prevs bs n, n, rfl, hA, hoa, hat, hT, h3, fun b hb => ⟨ft.sz b hb, (ft.up n hn b hb).1⟩, hk, by unfold prevs; rw [List.length_map], .inl ⟨fun i b t hb ht => ?_, ?_, fun H' d b1 k1 d1 d2 => ?_⟩⟩
  · have := (ft.up n hn b (List.mem_of_getElem? hb)).2
    unfold prevs at ht
    rw [List.getElem?_map, hb] at ht
    rw [← Option.some.inj ht]
    exact this
  · unfold dAt at h6
    rw [List.length_append] at h6
    omega
  · rw [← prevs_succ] at k1
    exact q H' d b1 k1 d1 d2
abbrev s_maker_of : Stmt := top 67
theorem sc_maker_of : FnScope ["tables", "number", "table", "taken", "ends", "many", "start", "begin", "place", "way"] ["tables"] (defScope s_maker_of) := ⟨rfl, rfl, rfl, by decide +kernel, rfl, by decide +kernel, by decide +kernel⟩
theorem ok_maker_of {f : Addr} {fd : FuncData} (F : Fun K "maker_of" "maker_of" s_maker_of f fd) (T : Txt K mg CT CM) (c_is_listed : C8.Cal P w K mg base 1 "is_listed" (spListed K) []) (x_check_lengths : CalX P w K mg base 3 "check_lengths" (spLens K CT CB))
    (x_deeds_to : CalX P w K mg base 5 "deeds_to" (spTo K CT CF)) (c_common_multiple : C8.Cal P w K mg base 2 "common_multiple" spLcm []) (m_Maker3 : C8.Mak P w K mg base 5 "Maker" CM (spMaker K CM) [])
    (xc_BadTables : Exc P w K mg "BadTables" CB "number" numV) (xc_TooMany : Exc P w K mg "TooMany" CF "word" wordV) : FnOk P w K mg base (L2.CX P w) 8 f fd ["tables"] (spMk K CT CM CB CF) := by
  refine F.okX sc_maker_of (fun vs H Q E h => ?_) (fun cdv A outer s H vs Q E hr h => ?_)
  · obtain ⟨_, rfl, _⟩ := h
    rfl
  · obtain ⟨x, rfl, h⟩ := h
    refine ⟨_, (pss_cons (ps_if (PW.pt (pw_or (pt_not (pt_val (C8.pe_c c_is_listed hr (by omega) rfl (pa_cons (pv 0) pa_nil)))) (pw_or1 (pt_not (pt_chain op_le op_le pe_int (pe_callB (r := Evl.rLenS K) call_len_seq (by rfl) T.b_len PySem.boot_len (pa_cons (pv 0) pa_nil)) pe_int))))) (pss_one (K28.ps_rs rfl xc_BadTables hr (takes_of rfl rfl rfl rfl) (pa_cons (pe_un un_neg pe_int) pa_nil))) pss_nil)
      (pss_cons (ps_for (passes_of rfl) rfl (pi_enumA rfl T.b_enumerate (pv 0)) (pg_tup rfl (pgs_cons (pg_name (i := 1) sc_maker_of.nd rfl (Or.inl rfl)) (pgs_cons (pg_name (i := 2) sc_maker_of.nd rfl (Or.inl rfl)) pgs_nil))) (pss_one (ps_if (pt_not (pt_val (pe_callB (r := rIsi K) call_isi (by rfl) T.b_isinstance (by decide +kernel) (pa_cons (pv 2) (pa_cons (C8.pe_gc rfl T.g_Table) pa_nil))))) (pss_one (K28.ps_rs rfl xc_BadTables hr (takes_of rfl rfl rfl rfl) (pa_cons (pv 1) pa_nil))) pss_nil)))
      (pss_cons (ps_expr (K28.pe_cx x_check_lengths hr (by omega) rfl (fun σ => passAt (takes_of rfl rfl rfl rfl) σ) (pa_cons (pv 0) pa_nil)))
      (pss_cons (ps_setLc (i := 3) (own := [("table", 2)]) (g := gName 2) (tt := tYes) rfl sc_maker_of.nd rfl rfl (sw_true rfl rfl rfl (by decide +kernel)) (pi_seq (pv 0)) (blkOk_by (own := [("table", 2)]) (N := ["tables", "number", "table", "taken", "ends", "many", "start", "begin", "place", "way"]) (sc := defScope s_maker_of) (by decide +kernel)) (fun _ _ _ _ _ => pg_name (i := 2) sc_maker_of.nd rfl (Or.inl rfl)) (fun _ _ _ _ _ => pts_nil) (fun _ _ _ _ _ => pe_int))
      (pss_cons (ps_set (i := 4) sc_maker_of.nd rfl (Or.inl rfl) (pe_cmpR op_eq (pe_callB (r := Evl.rLenS K) call_len_seq (by rfl) T.b_len PySem.boot_len (pa_cons (pe_fldK (K := K) (pe_ix (r := rIx K) ix_seq (pv 0) pe_int (fun _ _ => rfl)) rfl rfl) pa_nil)) pe_int (nomark _)))
      (pss_cons (ps_set (i := 5) sc_maker_of.nd rfl (Or.inl rfl) pe_int)
      (pss_cons (ps_for (passes_of rfl) rfl (pi_seq (pv 0)) (pg_name (i := 2) sc_maker_of.nd rfl (Or.inl rfl)) (pss_one (ps_set (i := 5) sc_maker_of.nd rfl (Or.inl rfl) (pe_ifExp (pt_val (pv 4)) (pv 5) (C8.pe_c c_common_multiple hr (by omega) rfl (pa_cons (pv 5) (pa_cons (pe_callB (r := Evl.rLenS K) call_len_seq (by rfl) T.b_len PySem.boot_len (pa_cons (pe_fldK (K := K) (pv 2) rfl rfl) pa_nil)) pa_nil)))))))
      (pss_cons (ps_set (i := 6) sc_maker_of.nd rfl (Or.inl rfl) (pe_op op_add (pe_callB (r := rMax K) (cr_max rfl) (by rfl) T.b_max (by decide +kernel) (pa_cons (pe_lc (own := [("table", 2)]) (g := gName 2) (tt := tYes) rfl sc_maker_of.nd (pi_seq (pv 0)) (blkOk_by (own := [("table", 2)]) (N := ["tables", "number", "table", "taken", "ends", "many", "start", "begin", "place", "way"]) (sc := defScope s_maker_of) (by decide +kernel)) (fun _ _ _ _ _ => pg_name (i := 2) sc_maker_of.nd rfl (Or.inl rfl)) (fun _ _ _ _ _ => pts_nil) (fun _ _ _ _ _ => (pe_callB (r := Evl.rLenS K) call_len_seq (by rfl) T.b_len PySem.boot_len (pa_cons (pe_fldK (K := K) (pv 2) rfl rfl) pa_nil)))) pa_nil)) (pe_ifExp (pt_val (pv 4)) pe_int pe_int)))
      (pss_cons (ps_set (i := 7) sc_maker_of.nd rfl (Or.inl rfl) (pe_lst pa_nil))
      (pss_cons (ps_for (passes_of rfl) rfl (pi_range1 rfl T.b_range (pa_cons (pv 6) pa_nil)) (pg_name (i := 8) sc_maker_of.nd rfl (Or.inl rfl)) (pss_cons (ps_expr (pe_bm PySem.F.plainAttrs_list PySem.F.slot_list_extend PySem.F.type_list_extend mt_extend (pv 7) (pa_cons (K28.pe_cx x_deeds_to hr (by omega) rfl (fun σ => passAt (takes_of rfl rfl rfl rfl) σ) (pa_cons (pv 0) (pa_cons (pv 3) (pa_cons (pe_op op_add (pv 8) pe_int) pa_nil)))) pa_nil)))
      (pss_one (ps_if (pt_cmpR op_gt (pe_callB (r := Evl.rLenS K) call_len_seq (by rfl) T.b_len PySem.boot_len (pa_cons (pv 7) pa_nil)) (C8.pe_gc rfl T.g_MOST_DEEDS) (nomark _)) (pss_one (K28.ps_rs rfl xc_TooMany hr (takes_of rfl rfl rfl rfl) (pa_cons pe_str pa_nil))) pss_nil))))
      (pss_cons (ps_set (i := 9) sc_maker_of.nd rfl (Or.inl rfl) (pe_lst (pa_cons pe_int pa_nil)))
      (pss_cons (ps_if (pt_not (pt_val (pv 4))) (pss_cons (ps_set (i := 9) sc_maker_of.nd rfl (Or.inl rfl) (pe_lst pa_nil))
      (pss_one (ps_for (passes_of rfl) rfl (pi_range2 rfl T.b_range (pa_cons (pv 6) (pa_cons (pe_op op_add (pv 6) (pv 5)) pa_nil))) (pg_name (i := 8) sc_maker_of.nd rfl (Or.inl rfl)) (pss_cons (ps_expr (pe_bm PySem.F.plainAttrs_list PySem.F.slot_list_extend PySem.F.type_list_extend mt_extend (pv 9) (pa_cons (K28.pe_cx x_deeds_to hr (by omega) rfl (fun σ => passAt (takes_of rfl rfl rfl rfl) σ) (pa_cons (pv 0) (pa_cons (pv 3) (pa_cons (pe_op op_add (pv 8) pe_int) pa_nil)))) pa_nil)))
      (pss_one (ps_if (pt_cmpR op_gt (pe_callB (r := Evl.rLenS K) call_len_seq (by rfl) T.b_len PySem.boot_len (pa_cons (pv 9) pa_nil)) (C8.pe_gc rfl T.g_MOST_DEEDS) (nomark _)) (pss_one (K28.ps_rs rfl xc_TooMany hr (takes_of rfl rfl rfl rfl) (pa_cons pe_str pa_nil))) pss_nil)))))) pss_nil)
      (pss_one (ps_ret (C8.pe_mk m_Maker3 hr (by omega) rfl (pa_cons (pe_callB (r := Evl.rLenS K) call_len_seq (by rfl) T.b_len PySem.boot_len (pa_cons (pv 0) pa_nil)) (pa_cons (pv 7) (pa_cons (pe_lst (pa_cons (pv 9) pa_nil)) pa_nil)))))))))))))))))), ?_⟩
    refine sq1 ?_
    rcases h with ⟨Tx, bx, ty, kt, c, q⟩ | ⟨a, ys, rfl, hA, hoa, l1, l3, h⟩
    · have fin : ∀ {σ : L2.St} {H1 : Hp} {D : Ends}, Ex H H1 → tRaiseE CB "number" numV (fun cls d _ H => E cls d H) (tCons (tUn (rU fun i => .int (-i)) (tC (.int 1))) tNil) D σ H1 := fun {σ H1 D} e => ⟨_, rfl, _, rfl, ⟨-1, rfl, by omega, by omega⟩, fun d hd => q _ d e hd⟩
      refine ⟨_, rfl, x, Tx, bx, rfl, ty, kt, fun H1 e1 => ⟨bx, rfl, ?_⟩⟩
      rcases c with rfl | ⟨a, ys, rfl, hA, hn⟩
      · exact if_t rfl (if_t rfl (fin e1))
      · cases bx with
        | false => exact if_t rfl (if_t rfl (fin e1))
        | true =>
          refine if_f rfl ?_
          refine ⟨_, rfl, a, _, rfl, hA.ex e1, _, _, rfl, rfl, _, rfl, ?_⟩
          by_cases c1 : (1 : Int) ≤ (ys.length : Nat)
          · refine if_t (decide_eq_true c1) ⟨_, _, rfl, rfl, _, rfl, ?_⟩
            exact if_t (by rw [decide_eq_false (by omega)]; rfl) (fin e1)
          · exact if_f (decide_eq_false c1) ⟨_, rfl, if_t rfl (fin e1)⟩
    obtain ⟨Ta, tyA, kA⟩ := hA.ty
    refine ⟨_, rfl, .ref a, Ta, true, rfl, tyA, kA, fun H1 e1 => ⟨true, rfl, ?_⟩⟩
    refine if_f rfl ⟨_, rfl, a, _, rfl, hA.ex e1, _, _, rfl, rfl, _, rfl, if_t (decide_eq_true (by omega)) ⟨_, _, rfl, rfl, _, rfl, if_f (by rw [decide_eq_true (by omega)]; rfl) ?_⟩⟩
    unfold tNext
    try dsimp only
    refine sq1 (fr_fb ?_)
    refine ⟨_, rfl, a, _, rfl, hA.ex e1, fun J G wk ce g => ?_⟩
    -- a table stands the test
    have isT : ∀ {H' : Hp} {t : Addr} {b : Raw}, TabAt K CT H' t b → TyX K H' (.ref t) (.ref CT) := fun {H' t b} ht => by
      obtain ⟨dx, vh, vl, hq, _⟩ := ht
      exact .base (.ins hq T.isT.cl T.isT.ha T.isT.hn T.isT.htk T.isT.hm)
    rcases h with ⟨k, y, Ty, hky, tyy, ky, hbefore, q⟩ | ⟨ts, bs, rfl, hT, h⟩
    · have hk3 : k < ys.length := (List.getElem?_eq_some_iff.mp hky).1
      refine for_it wk (fun i σ' H' => i ≤ k ∧ ∃ x1 x2 : Option V, σ' = [some (.ref a), x1, x2, none, none, none, none, none, none, none] ∧ G H' ∧ Ex H H') ⟨Nat.zero_le _, none, none, rfl, g, e1⟩ (fun i σ' H' _ ⟨_, _, _, _, g, _⟩ => g) ?_ ?_
      · rintro i x σ' H2 H3 hi ⟨hik, x1, x2, rfl, g2, e2⟩ ⟨Tp, x, y', rfl, nT, rfl, hx, hy⟩
        obtain rfl := Option.some.inj hx
        dsimp only at hy
        have e3 : Ex H2 (upd H2 Tp (.tup [.int (i : Nat), y'])) := Evl.Ex.new nT
        refine ⟨Tp, _, rfl, sq_t upd_same, rfl, _, _, rfl, _, _, rfl, rfl, ?_⟩
        by_cases c : i < k
        · obtain ⟨t, b, ht, tb⟩ := hbefore i c
          rw [ht] at hy
          obtain rfl := Option.some.inj hy
          refine ⟨_, rfl, _, _, _, _, true, rfl, .own _, isT ((tb.ex e2).ex e3), kit_own _, true, rfl, if_f rfl ?_⟩
          exact ⟨c, _, _, rfl, ce.ex e3 g2, e2.trans e3⟩
        · obtain rfl : i = k := by omega
          rw [hky] at hy
          obtain rfl := Option.some.inj hy
          refine ⟨_, rfl, _, _, _, _, false, rfl, .own _, tyx_mono (e2.trans e3) tyy, ky, false, rfl, if_t rfl ?_⟩
          exact ⟨_, rfl, _, rfl, ⟨_, rfl, by omega, by omega⟩, fun d hd => q _ d (e2.trans e3) hd⟩
      · rintro σ' H2 ⟨hik, _⟩
        omega
    · refine for_it wk (fun i σ' H' => ∃ x1 x2 : Option V, σ' = [some (.ref a), x1, x2, none, none, none, none, none, none, none] ∧ G H' ∧ Ex H H') ⟨none, none, rfl, g, e1⟩ (fun i σ' H' _ ⟨_, _, _, g, e⟩ => g) ?_ ?_
      · rintro i x σ' H2 H3 hi ⟨x1, x2, rfl, g2, e2⟩ ⟨Tp, x, y, rfl, nT, rfl, hx, hy⟩
        obtain rfl := Option.some.inj hx
        obtain ⟨t, ht, rfl⟩ := get_map hy
        have hit : i < bs.length := by rw [List.length_map, hT.1] at hi; exact hi
        have e3 : Ex H2 (upd H2 Tp (.tup [.int (i : Nat), V.ref t])) := Evl.Ex.new nT
        refine ⟨Tp, _, rfl, sq_t upd_same, rfl, _, _, rfl, _, _, rfl, rfl, ?_⟩
        have tb := ((hT.ex e2).ex e3).2 i t bs[i] ht (by simp [hit])
        refine ⟨_, rfl, _, _, _, _, true, rfl, .own _, isT tb, kit_own _, true, rfl, if_f rfl ?_⟩
        exact ⟨_, _, rfl, ce.ex e3 g2, e2.trans e3⟩
      · rintro σ' H2 ⟨x1, x2, rfl, g2, e2⟩
        try dsimp only
        refine sq1 ?_
        have bl : bs.length = ts.length := hT.1.symm
        rw [List.length_map] at l1 l3
        rcases h with ⟨c, q⟩ | h
        · exact ⟨_, rfl, a, ts, bs, rfl, hA.ex e2, hT.ex e2, by omega, by omega, .inr ⟨c, fun H' d e hd => q _ d (e2.trans e) hd⟩⟩
        obtain ⟨mx, hal, hsz, hm1, hm2, hml, hlm, q⟩ : ∃ mx, (∀ b ∈ bs, endOf b = endOf (bs.getD 0 ([], [], 0))) ∧ (∀ b ∈ bs, SzR b) ∧ (∃ b ∈ bs, b.1.length = mx) ∧ (∀ b ∈ bs, b.1.length ≤ mx) ∧ mx ≤ 1000 ∧
            (endsB bs = false → ∀ i, i ≤ bs.length → 0 < manyP (bs.take i) ∧ manyP (bs.take i) ≤ 1000) ∧
            ((Fit bs mx ∧ ∀ H' p, Ex H H' → MakAt K CM H' p (mkrOf bs mx) → Q (.ref p) H') ∨
             (mx = 0 ∧ ∃ v r, bs = [([], [v], r)] ∧ 600 < v ∧ SzR ([], [v], r) ∧ ∀ H' d, Ex H H' → H' d = none → E (.ref CF) (some d) (upd H' d (.xd [("word", .str "deed")])))) := by
          rcases h with ⟨mx, ft, q⟩ | ⟨v, r, rfl, hv, hz, q⟩
          · exact ⟨mx, ft.al, ft.sz, ft.mx1, ft.mx2, ft.ml, ft.lm, .inl ⟨ft, q⟩⟩
          · refine ⟨0, ?_, ?_, ⟨_, List.mem_cons_self, rfl⟩, ?_, by omega, ?_, .inr ⟨rfl, v, r, rfl, hv, hz, q⟩⟩
            · intro b hb; rw [List.mem_singleton.mp hb]; rfl
            · intro b hb; rw [List.mem_singleton.mp hb]; exact hz
            · intro b hb; rw [List.mem_singleton.mp hb]; exact Nat.le_refl _
            · intro _ i hi
              have : i = 0 ∨ i = 1 := by
                have : i ≤ 1 := hi
                omega
              rcases this with rfl | rfl
              · show 0 < 1 ∧ (1 : Nat) ≤ 1000
                decide
              · show 0 < Nat.lcm 1 1 ∧ Nat.lcm 1 1 ≤ 1000
                decide
        refine ⟨_, rfl, a, ts, bs, rfl, hA.ex e2, hT.ex e2, by omega, by omega, .inl ⟨hal, fun H3 e3 => ?_⟩⟩
        have E3 := e2.trans e3
        try dsimp only
        -- taken
        refine sq1 (as1 (lc_lb (j := 2) ?_))
        refine ⟨_, rfl, a, _, rfl, hA.ex E3, fun J2 G2 wk2 ce2 g3 => lc_map wk2 (fun (_ : Nat) y H => y = .int 0) (fun _ _ e g => ce2.ex e g) (fun _ _ _ _ _ r => r) g3 (by rw [List.length_map]; omega) (fun i x H' Q' hi hx e' kk => ?_) ?_⟩
        · exact kk _ _ Ex.r rfl
        intro tk ys H4 hl4 htn e4 hk4 hr4
        have ey : ys = (prevs bs 0).map V.int := by
          rw [show prevs bs 0 = List.replicate bs.length 0 by unfold prevs; simp [List.map_const'], List.map_replicate]
          exact List.eq_replicate_iff.mpr ⟨by rw [hl4, List.length_map]; omega, fun y hy => by
            obtain ⟨i', hi'⟩ := List.getElem?_of_mem hy
            exact hr4 i' y hi'⟩
        subst ey
        have htk0 : H tk = none := by
          cases e : H tk with
          | none => rfl
          | some o => rw [E3 _ _ e] at htn; cases htn
        have E4 := E3.trans e4
        try dsimp only
        -- ends
        obtain ⟨t0, ht0⟩ : ∃ t0, ts[0]? = some t0 := ⟨ts[0], by simp [show 0 < ts.length by omega]⟩
        obtain ⟨b0, hb0⟩ : ∃ b0, bs[0]? = some b0 := ⟨bs[0], by simp [show 0 < bs.length by omega]⟩
        have hb0d : bs.getD 0 ([], [], 0) = b0 := by rw [List.getD_eq_getElem?_getD, hb0]; rfl
        obtain ⟨dx, ah, al, o1, o2, o3⟩ := ((hT.ex E4).2 0 t0 b0 ht0 hb0).parts
        refine sq1 ⟨_, rfl, rIx_A (hA.ex E4) (atI_nat (j := 0) (by rw [List.getElem?_map, ht0]; rfl)) ⟨t0, CT, dx, _, _, rfl, o1, T.clT, T.t_loop, tfs_loop _ _ _, al, _, rfl, .inr o3, rfl, ?_⟩⟩
        have een : decide (V.int (((b0.2.1.map V.int).length : Nat) : Int) = V.int 0) = endsB bs := by
          unfold endsB
          rw [hb0d, dInt, List.length_map]
          by_cases c : b0.2.1.length = 0 <;> simp [c]
        rw [een]
        refine gn1 ?_
        try dsimp only
        refine sq1 (as1 ?_)
        unfold tC
        try dsimp only
        refine sq1 (fr_fb ?_)
        -- many
        refine ⟨_, rfl, a, _, rfl, hA.ex E4, fun J3 G3 wk3 ce3 g4 => fb_go wk3 (fun i σ' H' => ∃ x2 : Option V, σ' = [some (.ref a), x1, x2, some (.ref tk), some (.bl (endsB bs)), some (.int (if endsB bs = true then 1 else (manyP (bs.take i) : Nat))), none, none, none, none] ∧ H' = H4) ⟨x2, ?_, rfl⟩ (fun i σ' H' _ ⟨_, _, e⟩ => by rw [e]; exact g4) ?_ ?_⟩
        · by_cases c : endsB bs = true
          · rw [if_pos c]; rfl
          · rw [if_neg c]; rfl
        · rintro i x σ' H5 hi hx ⟨x3, rfl, rfl⟩
          obtain ⟨t, ht, rfl⟩ := get_map hx
          have hib : i < bs.length := by rw [List.length_map, hT.1] at hi; exact hi
          have hb : bs[i]? = some bs[i] := by simp [hib]
          generalize bs[i] = b at hb
          obtain ⟨dx, ah, al, o1, o2, o3⟩ := ((hT.ex E4).2 i t b ht hb).parts
          refine gn1 ?_
          refine ⟨_, rfl, _, rfl, ?_⟩
          by_cases c : endsB bs = true
          · rw [if_pos c, if_pos c]
            refine if_t c ⟨_, rfl, ?_⟩
            exact ⟨_, rfl, rfl⟩
          · rw [if_neg c, if_neg c]
            have c' : endsB bs = false := by simpa using c
            refine if_f c' ?_
            have hp := hlm c' i (by omega)
            have hbl : b.2.1.length ≠ 0 := by
              have e1 := hal b (List.mem_of_getElem? hb)
              have e2 : endOf (bs.getD 0 ([], [], 0)) = -1 := endOf_neg.mpr (by unfold endsB at c'; simpa using c')
              rw [e2] at e1
              exact endOf_neg.mp e1
            refine ⟨_, rfl, _, rfl, t, CT, dx, _, _, rfl, o1, T.clT, T.t_loop, tfs_loop _ _ _, al, _, rfl, .inr o3, _, b.2.1.length, by rw [List.length_map]; rfl, hp.1, by omega, by omega, ?_⟩
            rw [manyP_succ hb]
            exact ⟨some (.ref t), rfl, rfl⟩
        · rintro σ' H5 ⟨x3, rfl, rfl⟩
          try dsimp only
          rw [show (if endsB bs = true then (1 : Int) else ((manyP (bs.take (ts.map V.ref).length) : Nat) : Int)) = (if endsB bs = true then (1 : Int) else ((manyP bs : Nat) : Int)) by rw [List.take_of_length_le (by rw [List.length_map]; omega)]]
          -- start
          refine sq1 (as1 (op1 (cb1 (lc_lb (j := 2) ?_))))
          refine ⟨_, rfl, a, _, rfl, hA.ex E4, fun J4 G4 wk4 ce4 g5 => lc_map wk4 (fun (i : Nat) y H => ∃ b, bs[i]? = some b ∧ y = .int ((b.1.length : Nat) : Int)) (fun _ _ e g => ce4.ex e g) (fun _ _ _ _ _ r => r) g5 (by rw [List.length_map]; omega) (fun i x H' Q' hi hx e' kk => ?_) ?_⟩
          · obtain ⟨t, ht, rfl⟩ := get_map hx
            have hib : i < bs.length := by rw [List.length_map, hT.1] at hi; exact hi
            have hb : bs[i]? = some bs[i] := by simp [hib]
            generalize bs[i] = b at hb
            obtain ⟨dx, ah, al, o1, o2, o3⟩ := ((hT.ex (E4.trans e')).2 i t b ht hb).parts
            exact ⟨_, rfl, t, CT, dx, _, _, rfl, o1, T.clT, T.t_head, tfs_head _ _ _, ah, _, rfl, .inr o2, kk _ _ Ex.r ⟨b, hb, by rw [List.length_map]⟩⟩
          intro D ys H6 hl6 _ e6 hD6 hr6
          have ey : ys = (bs.map fun b => ((b.1.length : Nat) : Int)).map V.int := by
            rw [List.map_map]
            exact map_of (f := V.int ∘ fun b : Raw => ((b.1.length : Nat) : Int)) (by rw [hl6, List.length_map, hT.1]) fun i y hy => hr6 i y hy
          subst ey
          have E6 := E4.trans e6
          refine ⟨D, _, rfl, sq_l hD6, by rw [List.length_map]; omega, fun m hm hmax => ?_⟩
          have em : m = (mx : Int) := by
            obtain ⟨b1, hb1, e1⟩ := hm1
            obtain ⟨b2, hb2, e2⟩ := List.mem_map.mp hm
            have h1 := hmax (b1.1.length : Nat) (List.mem_map.mpr ⟨b1, hb1, rfl⟩)
            have h2 := hm2 b2 hb2
            omega
          subst em
          refine if01 rfl ?_
          have es : (mx : Int) + (if endsB bs = true then 0 else 1) = ((startN bs mx : Nat) : Int) := by
            unfold startN
            by_cases c : endsB bs = true
            · rw [if_pos c, if_pos c]; omega
            · rw [if_neg c, if_neg c]; omega
          have hs1 : startN bs mx ≤ 1001 := by
            unfold startN
            split <;> omega
          refine ⟨_, _, rfl, rfl, ?_⟩
          dsimp only
          rw [es]
          refine gn1 ?_
          try dsimp only
          refine ⟨Nat.zero_le _, fun p hp => ?_⟩
          have e7 : Ex H6 (upd H6 p (.lst [])) := Evl.Ex.new hp
          have hp7 : upd H6 p (.lst []) p = some (.lst ((seg bs 0 0).map dv)) := upd_same
          generalize upd H6 p (.lst []) = H7 at *
          have E7 := E6.trans e7
          have hp0 : H p = none := by
            cases e : H p with
            | none => rfl
            | some o => rw [E6 _ _ e] at hp; cases hp
          have npk : p ≠ tk := fun z => by rw [z, e6 _ _ hk4] at hp; cases hp
          have hat : a ≠ tk := fun z => by
            obtain ⟨o, ho⟩ := hoa
            rw [z, htk0] at ho; cases ho
          refine gn1 ?_
          try dsimp only
          refine sq1 (fr_fb ?_)
          refine ⟨_, rfl, _, rfl, by omega, by omega, ?_⟩
          rcases q with ⟨ft, q⟩ | ⟨rfl, v, r, rfl, hv, hz, q⟩
          · refine fb_go (wk_range (lo := 0) (n := startN bs mx)) (fun i σ' H' => ∃ x8 : Option V, σ' = [some (.ref a), x1, x3, some (.ref tk), some (.bl (endsB bs)), some (.int (if endsB bs = true then (1 : Int) else ((manyP bs : Nat) : Int))), some (.int ((startN bs mx : Nat) : Int)), some (.ref p), x8, none] ∧ Ex H H' ∧ H' tk = some (.lst ((prevs bs i).map V.int)) ∧ H' p = some (.lst ((seg bs 0 i).map dv)))
              ⟨none, rfl, E7, e7 _ _ (e6 _ _ hk4), hp7⟩ (fun i σ' H' _ _ => True.intro) ?_ ?_
            · rintro i x σ' H8 hi hx ⟨x8, rfl, e8, k8, p8⟩
              have ex : x = .int ((i : Nat) : Int) := by rw [hx]; simp
              subst ex
              clear hx
              refine gn1 ?_
              try dsimp only
              have hsz : (seg bs 0 (i + 1)).length ≤ 600 := Nat.le_trans (seg_le bs 0 hi) ft.z1
              rw [seg_succ, Nat.zero_add, List.length_append] at hsz
              obtain ⟨oa, hoa⟩ := hoa
              refine sq1 ⟨_, rfl, .inl ⟨rfl, _, sq_l p8⟩, _, rfl, _, rfl, _, rfl, _, _, rfl, rfl, ?_⟩
              unfold tNil
              dsimp only
              refine call_to (mx := mx) (hA.ex e8) ⟨oa, e8 _ _ hoa⟩ hat (hT.ex e8) (by omega) ft (by omega) (by omega) k8 fun H9 d b9 k9 d8 d9 => ?_
              have p9 := b9 p _ npk p8
              refine ⟨p, d, _, _, rfl, rfl, p9, d9, Evl.sz_of (by rw [List.length_map, List.length_map]; omega), ?_⟩
              have es2 : seg bs 0 i ++ dAt bs i = seg bs 0 (i + 1) := by rw [seg_succ, Nat.zero_add]
              rw [← List.map_append, es2]
              have E9 : Ex H H9 := But.exOf e8 htk0 b9
              have E10 : Ex H (upd H9 p (.lst ((seg bs 0 (i + 1)).map dv))) := E9.mut hp0
              have k10 : upd H9 p (.lst ((seg bs 0 (i + 1)).map dv)) tk = some (.lst ((prevs bs (i + 1)).map V.int)) := by rw [upd_ne npk.symm]; exact k9
              have p10 : upd H9 p (.lst ((seg bs 0 (i + 1)).map dv)) p = some (.lst ((seg bs 0 (i + 1)).map dv)) := upd_same
              generalize upd H9 p (.lst ((seg bs 0 (i + 1)).map dv)) = H10 at *
              try dsimp only
              refine ⟨_, rfl, p, _, rfl, .inl (sq_l p10), _, _, rfl, rfl, _, rfl, if_f (decide_eq_false ?_) ?_⟩
              · rw [List.length_map, seg_succ, Nat.zero_add, List.length_append]; omega
              · exact ⟨_, rfl, E10, k10, p10⟩
            · rintro σ' H8 ⟨x8, rfl, e8, k8, p8⟩
              try dsimp only
              obtain ⟨oa, hoa⟩ := hoa
              have fin : ∀ {H' : Hp} {pw : Addr} {z5 z6 z8 : Option V}, Ex H H' → H' p = some (.lst ((mkrOf bs mx).begin_.map dv)) → H' pw = some (.lst ((mkrOf bs mx).way.map dv)) →
                  (tRet (tMake CM (spMaker K CM) [] C8.E0 (tCons (tCB (Evl.rLenS K) (tCons (tVar 0) tNil)) (tCons (tVar 7) (tCons (tLst (tCons (tVar 9) tNil)) tNil))))) { nx := fun x H' => Q .non H', rt := Q }
                    [some (.ref a), x1, x3, some (.ref tk), some (.bl (endsB bs)), z5, z6, some (.ref p), z8, some (.ref pw)] H' := by
                intro H' pw z5 z6 z8 e' hp' hw'
                refine ⟨_, rfl, a, _, rfl, hA.ex e', _, rfl, _, rfl, (by show 1 ≤ sizeLine; decide), fun ws hws => ?_⟩
                have e1 : Ex H' (upd H' ws (.lst [.ref pw])) := Evl.Ex.new hws
                have w1 : upd H' ws (.lst [.ref pw]) ws = some (.lst [.ref pw]) := upd_same
                generalize upd H' ws (.lst [.ref pw]) = H1 at *
                refine fun x dx nx nd ne => ?_
                have em := made_ex0 (C := CM) nx nd
                have zw : (mkrOf bs mx).way.length ≤ 600 ∧ 0 < (mkrOf bs mx).way.length ∧ DOk bs.length (mkrOf bs mx).way := by
                  unfold mkrOf
                  by_cases c : endsB bs = true
                  · rw [if_pos c]
                    refine ⟨(by show 1 ≤ 600; decide), (by show 0 < 1; decide), fun d hd k e => ?_⟩
                    have := List.mem_singleton.mp hd
                    rw [this] at e
                    have := Option.some.inj e
                    omega
                  · rw [if_neg c]
                    have c' : endsB bs = false := by simpa using c
                    refine ⟨ft.z2 c', seg_pos _ _ _ ?_, seg_ok _ _ _⟩
                    have := (hlm c' bs.length (Nat.le_refl _)).1
                    rw [List.take_length] at this
                    exact this
                refine ⟨x, dx, p, ws, pw, mkrOf bs mx, by rw [List.length_map, ← bl]; rfl, upd_same, .inl (sq_l (em _ _ (e1 _ _ hp'))), em _ _ w1, .inl (sq_l (em _ _ (e1 _ _ hw'))), by show 1 ≤ bs.length; omega, by show bs.length ≤ 3; omega, seg_ok _ _ _, zw.2.2, ft.z1, zw.2.1, zw.1, fun H9 kk hm => ⟨rfl, ?_⟩⟩
                exact q H9 x (e'.trans (e1.trans (made_ex nx nd kk))) hm
              refine sq1 ⟨(by show 1 ≤ sizeLine; decide), fun pw hpw => ?_⟩
              have e9 : Ex H8 (upd H8 pw (.lst [.int 0])) := Evl.Ex.new hpw
              have w9 : upd H8 pw (.lst [.int 0]) pw = some (.lst [.int 0]) := upd_same
              generalize upd H8 pw (.lst [.int 0]) = H9 at *
              refine gn1 ?_
              try dsimp only
              refine sq1 ?_
              refine ⟨_, rfl, _, rfl, ?_⟩
              by_cases c : endsB bs = true
              · refine if_f (by rw [c]; rfl) ?_
                refine fin (e8.trans e9) (e9 _ _ p8) ?_
                rw [w9]
                unfold mkrOf
                rw [if_pos c]
                rfl
              · have c' : endsB bs = false := by simpa using c
                refine if_t (by rw [c']; rfl) ?_
                rw [if_neg c]
                have hm1 := (hlm c' bs.length (Nat.le_refl _))
                rw [List.take_length] at hm1
                refine sq1 ⟨Nat.zero_le _, fun pw2 hpw2 => ?_⟩
                have e11 : Ex H9 (upd H9 pw2 (.lst [])) := Evl.Ex.new hpw2
                have w11 : upd H9 pw2 (.lst []) pw2 = some (.lst ((seg bs (startN bs mx) 0).map dv)) := upd_same
                have E9 := e8.trans e9
                have hq0 : H pw2 = none := by
                  cases e : H pw2 with
                  | none => rfl
                  | some o => rw [E9 _ _ e] at hpw2; cases hpw2
                have nqk : pw2 ≠ tk := fun z => by rw [z, e9 _ _ k8] at hpw2; cases hpw2
                have nqp : pw2 ≠ p := fun z => by rw [z, e9 _ _ p8] at hpw2; cases hpw2
                generalize upd H9 pw2 (.lst []) = H11 at *
                refine gn1 ?_
                try dsimp only
                refine fr_fb ?_
                refine ⟨_, rfl, _, rfl, _, rfl, _, _, rfl, rfl, _, _, rfl, ⟨by omega, by omega, by omega, by omega⟩, ?_⟩
                rw [show (((startN bs mx : Nat) : Int) + ((manyP bs : Nat) : Int) - ((startN bs mx : Nat) : Int)).toNat = manyP bs by omega]
                refine fb_go (wk_range (lo := ((startN bs mx : Nat) : Int)) (n := manyP bs)) (fun i σ' H' => ∃ x8 : Option V, σ' = [some (.ref a), x1, x3, some (.ref tk), some (.bl (endsB bs)), some (.int ((manyP bs : Nat) : Int)), some (.int ((startN bs mx : Nat) : Int)), some (.ref p), x8, some (.ref pw2)] ∧ Ex H H' ∧ H' tk = some (.lst ((prevs bs (startN bs mx + i)).map V.int)) ∧ H' p = some (.lst ((seg bs 0 (startN bs mx)).map dv)) ∧ H' pw2 = some (.lst ((seg bs (startN bs mx) i).map dv)))
                  ⟨x8, rfl, E9.trans e11, e11 _ _ (e9 _ _ k8), e11 _ _ (e9 _ _ p8), w11⟩ (fun i σ' H' _ _ => True.intro) ?_ ?_
                · rintro i x σ' H12 hi hx ⟨x8, rfl, e12, k12, p12, w12⟩
                  have ex : x = .int ((startN bs mx + i : Nat) : Int) := by rw [hx]; simp
                  subst ex
                  clear hx
                  refine gn1 ?_
                  try dsimp only
                  have hsz : (seg bs (startN bs mx) (i + 1)).length ≤ 600 := Nat.le_trans (seg_le bs _ hi) (ft.z2 c')
                  rw [seg_succ, List.length_append] at hsz
                  refine sq1 ⟨_, rfl, .inl ⟨rfl, _, sq_l w12⟩, _, rfl, _, rfl, _, rfl, _, _, rfl, rfl, ?_⟩
                  unfold tNil
                  dsimp only
                  refine call_to (mx := mx) (hA.ex e12) ⟨oa, e12 _ _ hoa⟩ hat (hT.ex e12) (by omega) ft (by rw [if_neg c]; omega) (by omega) k12 fun H13 d b13 k13 d12 d13 => ?_
                  have w13 := b13 pw2 _ nqk w12
                  have p13 := b13 p _ npk p12
                  refine ⟨pw2, d, _, _, rfl, rfl, w13, d13, Evl.sz_of (by rw [List.length_map, List.length_map]; omega), ?_⟩
                  have es2 : seg bs (startN bs mx) i ++ dAt bs (startN bs mx + i) = seg bs (startN bs mx) (i + 1) := by rw [seg_succ]
                  rw [← List.map_append, es2]
                  have E13 : Ex H H13 := But.exOf e12 htk0 b13
                  have E14 : Ex H (upd H13 pw2 (.lst ((seg bs (startN bs mx) (i + 1)).map dv))) := E13.mut hq0
                  have k14 : upd H13 pw2 (.lst ((seg bs (startN bs mx) (i + 1)).map dv)) tk = some (.lst ((prevs bs (startN bs mx + (i + 1))).map V.int)) := by rw [upd_ne nqk.symm]; exact k13
                  have p14 : upd H13 pw2 (.lst ((seg bs (startN bs mx) (i + 1)).map dv)) p = some (.lst ((seg bs 0 (startN bs mx)).map dv)) := by rw [upd_ne nqp.symm]; exact p13
                  have w14 : upd H13 pw2 (.lst ((seg bs (startN bs mx) (i + 1)).map dv)) pw2 = some (.lst ((seg bs (startN bs mx) (i + 1)).map dv)) := upd_same
                  generalize upd H13 pw2 (.lst ((seg bs (startN bs mx) (i + 1)).map dv)) = H14 at *
                  try dsimp only
                  refine ⟨_, rfl, pw2, _, rfl, .inl (sq_l w14), _, _, rfl, rfl, _, rfl, if_f (decide_eq_false ?_) ?_⟩
                  · rw [List.length_map, seg_succ, List.length_append]; omega
                  · exact ⟨_, rfl, E14, k14, p14, w14⟩
                · rintro σ' H12 ⟨x8, rfl, e12, k12, p12, w12⟩
                  refine fin e12 p12 ?_
                  rw [w12]
                  unfold mkrOf
                  rw [if_neg c]
          · have s1 : startN [(([] : List Int), [v], r)] 0 = 1 := rfl
            rw [s1]
            refine fb_go (wk_range (lo := 0) (n := 1)) (fun i σ' H' => i = 0 ∧ σ' = [some (.ref a), x1, x3, some (.ref tk), some (.bl (endsB [(([] : List Int), [v], r)])), some (.int (if endsB [(([] : List Int), [v], r)] = true then (1 : Int) else ((manyP [(([] : List Int), [v], r)] : Nat) : Int))), some (.int ((1 : Nat) : Int)), some (.ref p), none, none] ∧ H' = H7)
              ⟨rfl, rfl, rfl⟩ (fun i σ' H' _ _ => True.intro) ?_ ?_
            · rintro i x σ' H8 hi hx ⟨rfl, rfl, rfl⟩
              have ex : x = .int ((0 : Nat) : Int) := by rw [hx]; simp
              subst ex
              clear hx
              refine gn1 ?_
              try dsimp only
              obtain ⟨oa, hoa⟩ := hoa
              refine sq1 ⟨_, rfl, .inl ⟨rfl, _, sq_l hp7⟩, _, rfl, _, rfl, _, rfl, _, _, rfl, rfl, ?_⟩
              refine ⟨a, tk, ts, _, prevs [(([] : List Int), [v], r)] 0, 0, rfl, hA.ex E7, ⟨oa, E7 _ _ hoa⟩, hat, hT.ex E7, by omega, fun b hb => ?_, e7 _ _ (e6 _ _ hk4), rfl, .inr ⟨_, rfl, rfl, ?_, fun H' d e hd => q H' d (E7.trans e) hd⟩⟩
              · rw [List.mem_singleton.mp hb]
                exact ⟨hz, .inl (by simp)⟩
              · show 600 < val [] [v] r 0
                unfold val
                simp
                exact hv
            · rintro σ' H8 ⟨e, _⟩
              cases e
end
end K28
end
section
set_option Elab.async false
set_option linter.all false
set_option maxRecDepth 100000
set_option maxHeartbeats 4000000
/-! What a made maker needs: the values of its tables. Plain. -/
namespace K28
open PySem PySem.Spec PyProof.Rows L2
theorem cnt_get {ns : List Int} (h : cnt ns = true) {i : Nat} (hi : i < ns.length) : 0 ≤ ns.getD i 0 := by
  unfold cnt at h
  rw [List.all_eq_true] at h
  rw [List.getD_eq_getElem?_getD, List.getElem?_eq_getElem hi]
  exact of_decide_eq_true (h _ (List.getElem_mem hi))
theorem cnt_of {ns : List Int} (h : ∀ i, i < ns.length → 0 ≤ ns.getD i 0) : cnt ns = true := by
  unfold cnt
  rw [List.all_eq_true]
  intro x hx
  obtain ⟨i, hi, rfl⟩ := List.getElem_of_mem hx
  have := h i hi
  rw [List.getD_eq_getElem?_getD, List.getElem?_eq_getElem hi] at this
  exact decide_eq_true this
theorem ris_get {ns : List Int} (h : rising ns = true) {i : Nat} (hi : i + 1 < ns.length) : ns.getD i 0 ≤ ns.getD (i + 1) 0 := by
  unfold rising at h
  rw [List.all_eq_true] at h
  exact of_decide_eq_true (h i (List.mem_range.mpr (by omega)))
theorem ris_of {ns : List Int} (h : ∀ i, i + 1 < ns.length → ns.getD i 0 ≤ ns.getD (i + 1) 0) : rising ns = true := by
  unfold rising
  rw [List.all_eq_true]
  intro i hi
  have := List.mem_range.mp hi
  exact decide_eq_true (h i (by omega))
theorem getD_mapR {f : Nat → Int} {m i : Nat} (hi : i < m) : ((List.range m).map f).getD i 0 = f i := by
  rw [List.getD_eq_getElem?_getD, List.getElem?_map, List.getElem?_range hi]; rfl
/-! ### deeds told -/
theorem ahead_app (k : Nat) : ∀ (xs ys : List (Option Nat)) (n : Int), ahead k (xs ++ ys) n = ((ahead k xs n).1 ++ (ahead k ys (ahead k xs n).2).1, (ahead k ys (ahead k xs n).2).2)
  | [], ys, n => by simp [ahead]
  | none :: xs, ys, n => by
    have ih := ahead_app k xs ys n
    simp only [List.cons_append, ahead, ih]
  | some j :: xs, ys, n => by
    simp only [List.cons_append, ahead]
    split
    · exact ahead_app k xs ys (n + 1)
    · exact ahead_app k xs ys n
theorem ahead_repl (k j : Nat) : ∀ (m : Nat) (n : Int), ahead k (List.replicate m (some j)) n = ([], if j = k then n + (m : Int) else n)
  | 0, n => by simp [ahead]
  | m + 1, n => by
    rw [List.replicate_succ]
    simp only [ahead]
    by_cases c : j = k
    · rw [if_pos c, if_pos c, ahead_repl k j m (n + 1), if_pos c]
      have : n + 1 + (m : Int) = n + ((m + 1 : Nat) : Int) := by omega
      rw [this]
    · rw [if_neg c, if_neg c, ahead_repl k j m n, if_neg c]
theorem ahead_ds (k : Nat) : ∀ (j : Nat) (ts ws : List Int) (n : Int), ts.length = ws.length → (∀ (i : Nat) t w, ts[i]? = some t → ws[i]? = some w → t ≤ w) →
    ahead k (dsOf j ts ws) n = ([], n + (if j ≤ k then ws.getD (k - j) 0 - ts.getD (k - j) 0 else 0))
  | j, [], [], n, _, _ => by simp [dsOf, ahead]
  | j, [], w :: ws, n, h, _ => by simp at h
  | j, t :: ts, [], n, h, _ => by simp at h
  | j, t :: ts, w :: ws, n, h, hle => by
    have h0 := hle 0 t w rfl rfl
    have ih := fun n => ahead_ds k (j + 1) ts ws n (by simpa using h) (fun i a b h1 h2 => hle (i + 1) a b h1 h2)
    rw [dsOf, ahead_app, ahead_repl]
    dsimp only
    rw [ih]
    dsimp only
    congr 1
    by_cases c : j = k
    · subst c
      rw [if_pos rfl, if_neg (by omega), if_pos (Nat.le_refl _), Nat.sub_self]
      simp only [List.getD_cons_zero]
      omega
    · rw [if_neg c]
      by_cases c2 : j ≤ k
      · rw [if_pos (by omega), if_pos c2]
        have e : k - j = (k - (j + 1)) + 1 := by omega
        rw [e]
        simp only [List.getD_cons_succ]
      · rw [if_neg (by omega), if_neg c2]
def prv (b : Raw) (n : Nat) : Int := if n = 0 then 0 else vb b (n - 1)
theorem prv_succ (b : Raw) (n : Nat) : prv b (n + 1) = vb b n := by unfold prv; simp
theorem prevs_prv (bs : List Raw) (n : Nat) : prevs bs n = bs.map (prv · n) := rfl
theorem getD_map_at {bs : List Raw} {f : Raw → Int} {k : Nat} {b : Raw} (h : bs[k]? = some b) : (bs.map f).getD k 0 = f b := by
  rw [List.getD_eq_getElem?_getD, List.getElem?_map, h]; rfl
section
variable {bs : List Raw} {k : Nat} {b : Raw}
theorem le_at {n : Nat} (hu : ∀ b ∈ bs, prv b n ≤ vb b n) (i : Nat) (t w : Int) (ht : (prevs bs n)[i]? = some t) (hw : (bs.map (vb · n))[i]? = some w) : t ≤ w := by
  rw [prevs_prv, List.getElem?_map] at ht
  rw [List.getElem?_map] at hw
  cases e : bs[i]? with
  | none => rw [e] at ht; cases ht
  | some x =>
    rw [e] at ht hw
    have := hu x (List.mem_of_getElem? e)
    rw [← Option.some.inj ht, ← Option.some.inj hw]
    exact this
theorem ahead_dAt (hb : bs[k]? = some b) {n : Nat} (hu : ∀ b ∈ bs, prv b n ≤ vb b n) (z : Int) : ahead k (dAt bs n) z = ([z + (vb b n - prv b n)], z + (vb b n - prv b n)) := by
  unfold dAt
  rw [ahead_app, ahead_ds k 0 _ _ _ (by unfold prevs; rw [List.length_map, List.length_map]) (le_at hu), if_pos (Nat.zero_le _), Nat.sub_zero, prevs_prv, getD_map_at hb, getD_map_at hb]
  simp [ahead]
theorem ahead_seg (hb : bs[k]? = some b) (s : Nat) (z : Int) : ∀ m : Nat, (∀ i, i < m → ∀ b ∈ bs, prv b (s + i) ≤ vb b (s + i)) → ahead k (seg bs s m) z = ((List.range m).map (fun i => z + (vb b (s + i) - prv b s)), z + (prv b (s + m) - prv b s))
  | 0, _ => by simp [seg, ahead]
  | m + 1, hu => by
    have ih := ahead_seg hb s z m fun i hi => hu i (by omega)
    rw [seg_succ, ahead_app, ih]
    dsimp only
    rw [ahead_dAt hb (hu m (by omega)), List.range_succ, List.map_append]
    dsimp only
    have e1 : z + (prv b (s + m) - prv b s) + (vb b (s + m) - prv b (s + m)) = z + (vb b (s + m) - prv b s) := by omega
    have e2 : prv b (s + (m + 1)) = vb b (s + m) := prv_succ b (s + m)
    rw [e1, e2]
    rfl
end
/-! ### how many deeds -/
theorem ds_len (f g : Raw → Int) : ∀ (j : Nat) (bs : List Raw), (∀ b ∈ bs, f b ≤ g b) → ((dsOf j (bs.map f) (bs.map g)).length : Int) = (bs.map fun b => g b - f b).sum
  | j, [], _ => rfl
  | j, b :: bs, h => by
    have ih := ds_len f g (j + 1) bs fun x hx => h x (List.mem_cons_of_mem _ hx)
    have h0 := h b List.mem_cons_self
    simp only [List.map_cons, dsOf, List.length_append, List.length_replicate, List.sum_cons]
    omega
theorem sum_add (f g : Raw → Int) : ∀ bs : List Raw, (bs.map f).sum + (bs.map g).sum = (bs.map fun b => f b + g b).sum
  | [] => rfl
  | b :: bs => by
    have ih := sum_add f g bs
    simp only [List.map_cons, List.sum_cons]
    omega
theorem sum_le (f : Raw → Int) (B : Int) : ∀ bs : List Raw, (∀ b ∈ bs, f b ≤ B) → (bs.map f).sum ≤ B * (bs.length : Int)
  | [], _ => by simp
  | b :: bs, h => by
    have ih := sum_le f B bs fun x hx => h x (List.mem_cons_of_mem _ hx)
    have h0 := h b List.mem_cons_self
    simp only [List.map_cons, List.sum_cons, List.length_cons]
    have e : B * ((bs.length + 1 : Nat) : Int) = B * (bs.length : Int) + B := by rw [Int.natCast_add, Int.mul_add]; simp
    omega
theorem seg_len {bs : List Raw} (s : Nat) : ∀ m : Nat, (∀ i, i < m → ∀ b ∈ bs, prv b (s + i) ≤ vb b (s + i)) → ((seg bs s m).length : Int) = (m : Int) + (bs.map fun b => prv b (s + m) - prv b s).sum
  | 0, _ => by
    have : (bs.map fun b => prv b (s + 0) - prv b s).sum = 0 := by
      simp only [Nat.add_zero, Int.sub_self]
      induction bs with
      | nil => rfl
      | cons b r ih => simp only [List.map_cons, List.sum_cons]; rw [ih (fun i hi => absurd hi (by omega))]; rfl
    rw [this]; rfl
  | m + 1, hu => by
    have ih := seg_len s m fun i hi => hu i (by omega)
    have hd : ((dAt bs (s + m)).length : Int) = 1 + (bs.map fun b => vb b (s + m) - prv b (s + m)).sum := by
      unfold dAt
      rw [List.length_append, prevs_prv, Int.natCast_add, ds_len _ _ _ _ (hu m (by omega))]
      simp only [List.length_singleton]
      omega
    rw [seg_succ, List.length_append, Int.natCast_add, ih, hd]
    have := sum_add (fun b => prv b (s + m) - prv b s) (fun b => vb b (s + m) - prv b (s + m)) bs
    have e : (bs.map fun b => (prv b (s + m) - prv b s) + (vb b (s + m) - prv b (s + m))) = bs.map fun b => prv b (s + (m + 1)) - prv b s := by
      refine List.map_congr_left fun b _ => ?_
      rw [show s + (m + 1) = (s + m) + 1 by omega, prv_succ]
      omega
    rw [e] at this
    omega
/-! ### tables that go on; tables that end -/
structure Steady (x : Raw) : Prop where
  good : Good x.1 x.2.1 x.2.2
  l1 : 1 ≤ x.2.1.length
  l4 : x.2.1.length ≤ 4
  h4 : x.1.length ≤ 4
  bd : ∀ n : Nat, vb x n ≤ 16 + 10 * (n : Int)
  r10 : x.2.2 ≤ 10
structure Ended (u : Nat) (x : Raw) : Prop where
  nl : x.2.1 = []
  r0 : x.2.2 = 0
  len : x.1.length = u
  cn : cnt x.1 = true
  ri : rising x.1 = true
  bd : ∀ i, x.1.getD i 0 ≤ 100
theorem good_mono {h l : List Int} {r : Int} (g : Good h l r) (l1 : 0 < l.length) : 0 ≤ val h l r 0 ∧ ∀ n, val h l r n ≤ val h l r (n + 1) := by
  refine ⟨?_, fun n => ?_⟩
  · by_cases c : 0 < h.length
    · rw [val_lt c]; exact cnt_get g.cntH c
    · have e := val_ge (h := h) (l := l) (r := r) 0
      rw [show h.length + 0 = 0 by omega] at e
      rw [e, Nat.zero_mod, Nat.zero_div]
      have := cnt_get g.cntL l1
      simp only [Int.natCast_zero, Int.mul_zero, Int.add_zero]
      exact this
  · by_cases c : n + 1 < h.length
    · rw [val_lt c, val_lt (by omega)]
      exact ris_get g.risH c
    · by_cases c2 : n + 1 = h.length
      · have e := val_ge (h := h) (l := l) (r := r) 0
        rw [Nat.add_zero, ← c2, Nat.zero_mod, Nat.zero_div] at e
        rw [e, val_lt (by omega)]
        have := g.join (fun z => by rw [z] at c2; simp at c2) (fun z => by rw [z] at l1; simp at l1)
        rw [show h.length - 1 = n by omega] at this
        simp only [Int.natCast_zero, Int.mul_zero, Int.add_zero]
        exact this
      · obtain ⟨t, rfl⟩ := Nat.exists_eq_add_of_le (show h.length ≤ n by omega)
        rw [Nat.add_assoc, val_ge, val_ge]
        have hm := Nat.mod_lt t l1
        have hd := Nat.div_add_mod t l.length
        by_cases c3 : t % l.length + 1 < l.length
        · have e1 : (t + 1) % l.length = t % l.length + 1 := by
            rw [Nat.add_mod, Nat.mod_eq_of_lt (show 1 < l.length by omega), Nat.mod_eq_of_lt c3]
          have e2 : (t + 1) / l.length = t / l.length := by
            have h2 := Nat.div_add_mod (t + 1) l.length
            rw [e1] at h2
            have : l.length * ((t + 1) / l.length) = l.length * (t / l.length) := by omega
            exact Nat.eq_of_mul_eq_mul_left l1 this
          rw [e1, e2]
          have := ris_get g.risL c3
          omega
        · have e1 : t + 1 = l.length * (t / l.length + 1) := by rw [Nat.mul_succ]; omega
          have e2 : (t + 1) % l.length = 0 := by rw [e1]; exact Nat.mul_mod_right _ _
          have e3 : (t + 1) / l.length = t / l.length + 1 := by rw [e1]; exact Nat.mul_div_cancel_left _ l1
          rw [e2, e3]
          have := g.top (fun z => by rw [z] at l1; simp at l1)
          have e4 : t % l.length = l.length - 1 := by omega
          rw [e4]
          have e5 : r * ((t / l.length + 1 : Nat) : Int) = r * ((t / l.length : Nat) : Int) + r := by rw [Int.natCast_add, Int.mul_add]; simp
          omega
theorem mono_up {v : Nat → Int} (h : ∀ n, v n ≤ v (n + 1)) : ∀ {n m : Nat}, n ≤ m → v n ≤ v m := by
  intro n m hm
  induction m with
  | zero => rw [Nat.le_zero.mp hm]; exact Int.le_refl _
  | succ m ih =>
    by_cases c : n = m + 1
    · rw [c]; exact Int.le_refl _
    · exact Int.le_trans (ih (by omega)) (h m)
/-- a table that goes on, and its plain form -/
structure Goes (x b : Raw) : Prop where
  can : Canon (vb x) b.1 b.2.1 b.2.2
  same : ∀ n, vb b n = vb x n
  hl : b.1.length ≤ x.1.length
  dv : b.2.1.length ∣ x.2.1.length
  l1 : 0 < b.2.1.length
  pos : ∀ n, 0 ≤ vb b n
  up : ∀ n, vb b n ≤ vb b (n + 1)
  pvb : ∀ n, prv b n ≤ vb b n
  qp : QP (vb b) b.1.length b.2.1.length b.2.2
  sz : SzR b
theorem Steady.goes {x b : Raw} (s : Steady x) (p : Plain x b) : Goes x b := by
  have ne : x.2.1 ≠ [] := fun z => by have := s.l1; rw [z] at this; simp at this
  unfold Plain at p
  rw [if_neg ne] at p
  have p' : Canon (vb x) b.1 b.2.1 b.2.2 := p
  have same : ∀ n, vb b n = vb x n := p'.same
  obtain ⟨m0, mu⟩ := good_mono s.good s.l1
  have up : ∀ n, vb b n ≤ vb b (n + 1) := fun n => by rw [same, same]; exact mu n
  have b0 : 0 ≤ vb b 0 := by rw [same]; exact m0
  have pos : ∀ n, 0 ≤ vb b n := fun n => Int.le_trans b0 (mono_up up (Nat.zero_le n))
  have qb : QP (vb b) b.1.length b.2.1.length b.2.2 := val_qp p'.pos
  have qx : QP (vb x) x.1.length x.2.1.length x.2.2 := val_qp s.l1
  have dv : b.2.1.length ∣ x.2.1.length := EP.dvd p'.pos ⟨_, _, p'.qp⟩ p'.least ⟨_, _, qx⟩
  have hl : b.1.length ≤ x.1.length := by
    refine Nat.le_of_not_lt fun c => ?_
    obtain ⟨k, hk⟩ : ∃ k, b.1.length = k + 1 := ⟨b.1.length - 1, by omega⟩
    exact p'.trim k hk (QP.back s.l1 qx p'.qp k (by omega))
  have bl4 : b.2.1.length ≤ 4 := Nat.le_trans (Nat.le_of_dvd s.l1 dv) s.l4
  have hr := qb b.1.length (Nat.le_refl _)
  have r0 : 0 ≤ b.2.2 := by
    have := mono_up up (show b.1.length ≤ b.1.length + b.2.1.length by omega)
    omega
  have rb : b.2.2 ≤ 1000 := by
    have h1 := pos b.1.length
    have h2 := s.bd (b.1.length + b.2.1.length)
    rw [same] at hr
    have := s.h4
    omega
  refine ⟨p', same, hl, dv, p'.pos, pos, up, fun n => ?_, qb, ?_⟩
  · cases n with
    | zero => exact b0
    | succ n => rw [prv_succ]; exact up n
  · have := s.h4
    exact ⟨by omega, by omega, r0, by omega⟩
end K28
end
section
set_option Elab.async false
set_option linter.all false
set_option maxRecDepth 100000
set_option maxHeartbeats 4000000
namespace K28
open PySem PySem.Spec PyProof.Rows L2
theorem max_ex (f : Raw → Nat) : ∀ bs : List Raw, bs ≠ [] → ∃ mx, (∃ b ∈ bs, f b = mx) ∧ ∀ b ∈ bs, f b ≤ mx
  | [], h => absurd rfl h
  | [b], _ => ⟨f b, ⟨b, List.mem_cons_self, rfl⟩, fun x hx => by rw [List.mem_singleton.mp hx]; exact Nat.le_refl _⟩
  | b :: c :: r, _ => by
    obtain ⟨m, ⟨y, hy, e⟩, h⟩ := max_ex f (c :: r) (by simp)
    by_cases q : f b ≤ m
    · exact ⟨m, ⟨y, List.mem_cons_of_mem _ hy, e⟩, fun x hx => by
        rcases List.mem_cons.mp hx with rfl | hx
        · exact q
        · exact h x hx⟩
    · exact ⟨f b, ⟨b, List.mem_cons_self, rfl⟩, fun x hx => by
        rcases List.mem_cons.mp hx with rfl | hx
        · exact Nat.le_refl _
        · have := h x hx; omega⟩
theorem lcm_fold : ∀ (bs : List Raw) (m : Nat), 0 < m → m ∣ 12 → (∀ b ∈ bs, 0 < b.2.1.length ∧ b.2.1.length ∣ 12) →
    0 < bs.foldl (fun m b => Nat.lcm m b.2.1.length) m ∧ bs.foldl (fun m b => Nat.lcm m b.2.1.length) m ∣ 12 ∧ m ∣ bs.foldl (fun m b => Nat.lcm m b.2.1.length) m ∧ ∀ b ∈ bs, b.2.1.length ∣ bs.foldl (fun m b => Nat.lcm m b.2.1.length) m
  | [], m, h0, hd, _ => ⟨h0, hd, Nat.dvd_refl _, fun b hb => absurd hb (by simp)⟩
  | b :: r, m, h0, hd, hb => by
    obtain ⟨b0, bd⟩ := hb b List.mem_cons_self
    obtain ⟨i1, i2, i3, i4⟩ := lcm_fold r (Nat.lcm m b.2.1.length) (Nat.lcm_pos h0 b0) (Nat.lcm_dvd hd bd) fun x hx => hb x (List.mem_cons_of_mem _ hx)
    rw [List.foldl_cons]
    refine ⟨i1, i2, Nat.dvd_trans (Nat.dvd_lcm_left _ _) i3, fun x hx => ?_⟩
    rcases List.mem_cons.mp hx with rfl | hx
    · exact Nat.dvd_trans (Nat.dvd_lcm_right _ _) i3
    · exact i4 x hx
theorem dvd12 {n : Nat} (h1 : 1 ≤ n) (h4 : n ≤ 4) : n ∣ 12 := by
  have : n = 1 ∨ n = 2 ∨ n = 3 ∨ n = 4 := by omega
  rcases this with rfl | rfl | rfl | rfl <;> decide
section
variable {bs : List Raw}
/-- all go on -/
theorem fit_steady (n1 : 0 < bs.length) (n3 : bs.length ≤ 3) (hB : ∀ b ∈ bs, ∃ x, Steady x ∧ Goes x b) :
    ∃ mx, Fit bs mx ∧ mx ≤ 4 ∧ endsB bs = false ∧ 0 < manyP bs ∧ manyP bs ≤ 12 ∧ (∀ b ∈ bs, b.2.1.length ∣ manyP bs) ∧ (∀ b ∈ bs, b.1.length ≤ mx) := by
  obtain ⟨mx, hm1, hm2⟩ := max_ex (fun b => b.1.length) bs (fun z => by rw [z] at n1; simp at n1)
  have hd : ∀ b ∈ bs, 0 < b.2.1.length ∧ b.2.1.length ∣ 12 := fun b hb => by
    obtain ⟨x, s, g⟩ := hB b hb
    exact ⟨g.l1, Nat.dvd_trans g.dv (dvd12 s.l1 s.l4)⟩
  obtain ⟨f1, f2, f3, f4⟩ := lcm_fold bs 1 (by omega) (by decide) hd
  have m12 : manyP bs ≤ 12 := Nat.le_of_dvd (by omega) f2
  have m4 : mx ≤ 4 := by
    obtain ⟨b, hb, e⟩ := hm1
    obtain ⟨x, s, g⟩ := hB b hb
    have := g.hl
    have := s.h4
    omega
  have ends : endsB bs = false := by
    unfold endsB
    refine decide_eq_false ?_
    cases bs with
    | nil => simp at n1
    | cons b r =>
      have := (hd b List.mem_cons_self).1
      show ¬ b.2.1.length = 0
      omega
  have hal : ∀ b ∈ bs, endOf b = -1 := fun b hb => endOf_neg.mpr (by have := (hd b hb).1; omega)
  have upA : ∀ n, ∀ b ∈ bs, prv b n ≤ vb b n := fun n b hb => by obtain ⟨x, s, g⟩ := hB b hb; exact g.pvb n
  have bd : ∀ b ∈ bs, ∀ n, vb b n ≤ 16 + 10 * (n : Int) := fun b hb n => by
    obtain ⟨x, s, g⟩ := hB b hb
    rw [g.same]
    exact s.bd n
  have ps : ∀ b ∈ bs, ∀ n, 0 ≤ prv b n := fun b hb n => by
    obtain ⟨x, s, g⟩ := hB b hb
    cases n with
    | zero => exact Int.le_refl 0
    | succ n => rw [prv_succ]; exact g.pos n
  have hs : startN bs mx = mx + 1 := by unfold startN; rw [ends]; rfl
  refine ⟨mx, ⟨fun b hb => ?_, fun b hb => by obtain ⟨x, s, g⟩ := hB b hb; exact g.sz, hm1, hm2, by omega, fun n _ b hb => ?_, ?_, fun _ => ?_, fun _ i hi => ?_⟩, m4, ends, f1, m12, f4, hm2⟩
  · rw [hal b hb]
    cases bs with
    | nil => simp at n1
    | cons b0 r => exact (hal b0 List.mem_cons_self).symm
  · obtain ⟨x, s, g⟩ := hB b hb
    exact ⟨.inl fun z => by have := g.l1; rw [z] at this; simp at this, g.pvb n⟩
  · have h1 := seg_len (bs := bs) 0 (startN bs mx) fun i _ b hb => by rw [Nat.zero_add]; exact upA i b hb
    have h2 := sum_le (fun b => prv b (0 + startN bs mx) - prv b 0) 186 bs fun b hb => by
      rw [hs, Nat.zero_add, prv_succ]
      have := bd b hb mx
      have := ps b hb 0
      omega
    omega
  · have h1 := seg_len (bs := bs) (startN bs mx) (manyP bs) fun i _ b hb => upA _ b hb
    have h2 := sum_le (fun b => prv b (startN bs mx + manyP bs) - prv b (startN bs mx)) 186 bs fun b hb => by
      have e : startN bs mx + manyP bs = (mx + manyP bs) + 1 := by omega
      rw [e, prv_succ]
      have := bd b hb (mx + manyP bs)
      have := ps b hb (startN bs mx)
      have : ((mx + manyP bs : Nat) : Int) ≤ 16 := by omega
      omega
    omega
  · have := lcm_fold (bs.take i) 1 (by omega) (by decide) fun b hb => hd b (List.mem_of_mem_take hb)
    refine ⟨this.1, ?_⟩
    have := Nat.le_of_dvd (by omega) this.2.1
    unfold manyP
    omega
theorem need_steady {mx k c : Nat} {b : Raw} (hB : ∀ b ∈ bs, ∃ x, Steady x ∧ Goes x b) (hb : bs[k]? = some b) (ends : endsB bs = false) (m4 : mx ≤ 4) (p0 : 0 < manyP bs) (p12 : manyP bs ≤ 12) (hdv : b.2.1.length ∣ manyP bs) (hmx : b.1.length ≤ mx) (c1 : 1 ≤ c) (c2 : c ≤ 2) :
    Good (needRaw (mkrOf bs mx) k c).1 (needRaw (mkrOf bs mx) k c).2.1 (needRaw (mkrOf bs mx) k c).2.2 ∧ SzR (needRaw (mkrOf bs mx) k c) ∧ ∀ b', Plain (needRaw (mkrOf bs mx) k c) b' → b' = b := by
  obtain ⟨x, s, g⟩ := hB b (List.mem_of_getElem? hb)
  have upA : ∀ n, ∀ b ∈ bs, prv b n ≤ vb b n := fun n b hb => by obtain ⟨x, s, g⟩ := hB b hb; exact g.pvb n
  have hs : startN bs mx = mx + 1 := by unfold startN; rw [ends]; rfl
  obtain ⟨q, hq⟩ := hdv
  have qp : QP (vb b) mx (manyP bs) (b.2.2 * (q : Int)) := by
    have := g.qp.mul q
    rw [← hq] at this
    exact this.mono hmx
  have hR : vb b (mx + manyP bs) = vb b mx + b.2.2 * (q : Int) := qp mx (Nat.le_refl _)
  have R0 : 0 ≤ b.2.2 * (q : Int) := by
    have := mono_up g.up (show mx ≤ mx + manyP bs by omega)
    omega
  have Rb : b.2.2 * (q : Int) ≤ 1000 := by
    have h1 := g.pos mx
    have h2 := s.bd (mx + manyP bs)
    rw [← g.same] at h2
    omega
  generalize hRR : b.2.2 * (q : Int) = R at *
  have hbeg : ahead k (mkrOf bs mx).begin_ 0 = ((List.range (mx + 1)).map (vb b), vb b mx) := by
    have := ahead_seg hb 0 0 (startN bs mx) fun i _ b hb => by rw [Nat.zero_add]; exact upA i b hb
    unfold mkrOf
    rw [this, hs, Nat.zero_add, prv_succ]
    have e0 : prv b 0 = 0 := rfl
    rw [e0]
    have : ((List.range (mx + 1)).map fun i => 0 + (vb b (0 + i) - 0)) = (List.range (mx + 1)).map (vb b) := List.map_congr_left fun i _ => by rw [Nat.zero_add]; omega
    rw [this]
    congr 1
    omega
  have hway : (mkrOf bs mx).way = seg bs (mx + 1) (manyP bs) := by
    unfold mkrOf
    rw [ends, hs]
    rfl
  have hrep : ∀ c : Nat, ahead k (rep c (mkrOf bs mx).way) 0 = ((List.range (c * manyP bs)).map (fun i => vb b (mx + 1 + i) - vb b mx), R * (c : Int)) := by
    intro c
    induction c with
    | zero => simp [rep, ahead]
    | succ c ih =>
      rw [rep_succ, ahead_app, ih]
      dsimp only
      rw [hway, ahead_seg hb (mx + 1) (R * (c : Int)) (manyP bs) fun i _ b hb => upA _ b hb]
      dsimp only
      have e1 : (c + 1) * manyP bs = c * manyP bs + manyP bs := Nat.succ_mul _ _
      rw [e1, List.range_add, List.map_append, List.map_map, prv_succ, show mx + 1 + manyP bs = (mx + manyP bs) + 1 by omega, prv_succ, hR]
      have e2 : R * (((c + 1 : Nat)) : Int) = R * (c : Int) + R := by rw [Int.natCast_add, Int.mul_add]; simp
      rw [e2]
      congr 1
      · congr 1
        refine List.map_congr_left fun i _ => ?_
        have := qp.mul c (mx + 1 + i) (by omega)
        rw [show mx + 1 + i + manyP bs * c = mx + 1 + (c * manyP bs + i) by rw [Nat.mul_comm]; omega] at this
        show R * (c : Int) + (vb b (mx + 1 + i) - vb b mx) = vb b (mx + 1 + (c * manyP bs + i)) - vb b mx
        omega
      · omega
  have cp : 0 < c * manyP bs := Nat.mul_pos (by omega) p0
  have hne : (List.range (c * manyP bs)).map (fun i => vb b (mx + 1 + i) - vb b mx) ≠ [] := fun z => by
    have := congrArg List.length z
    simp at this
    omega
  have hneed : needRaw (mkrOf bs mx) k c = ((List.range (mx + 1)).map (vb b), (List.range (c * manyP bs)).map (fun i => vb b (mx + 1 + i)), R * (c : Int)) := by
    unfold needRaw
    rw [hbeg, hrep]
    dsimp only
    rw [if_neg hne, List.map_map]
    congr 1
    congr 1
    refine List.map_congr_left fun i _ => ?_
    show vb b mx + (vb b (mx + 1 + i) - vb b mx) = _
    omega
  have qpc : QP (vb b) mx (c * manyP bs) (R * (c : Int)) := by
    have := qp.mul c
    rw [Nat.mul_comm] at this
    exact this
  have hcR : 0 ≤ R * (c : Int) := Int.mul_nonneg R0 (by omega)
  have hcR2 : R * (c : Int) ≤ 2000 := by
    have : c = 1 ∨ c = 2 := by omega
    rcases this with rfl | rfl <;> omega
  have hcm : c * manyP bs ≤ 24 := by
    have := Nat.mul_le_mul c2 p12
    omega
  rw [hneed]
  refine ⟨⟨?_, ?_, ?_, ?_, ?_, hcR, ?_, ?_⟩, ⟨?_, ?_, hcR, ?_⟩, fun b' hp => ?_⟩
  · refine cnt_of fun i hi => ?_
    rw [List.length_map, List.length_range] at hi
    rw [getD_mapR hi]
    exact g.pos i
  · refine ris_of fun i hi => ?_
    rw [List.length_map, List.length_range] at hi
    rw [getD_mapR (by omega), getD_mapR hi]
    exact g.up i
  · refine cnt_of fun i hi => ?_
    rw [List.length_map, List.length_range] at hi
    rw [getD_mapR hi]
    exact g.pos _
  · refine ris_of fun i hi => ?_
    rw [List.length_map, List.length_range] at hi
    rw [getD_mapR (by omega), getD_mapR hi]
    exact g.up _
  · intro _ _
    rw [List.length_map, List.length_range, getD_mapR (by omega), getD_mapR cp]
    exact g.up _
  · intro z
    have := congrArg List.length z
    simp at this
    omega
  · intro _
    dsimp only
    rw [List.length_map, List.length_range, getD_mapR (by omega), getD_mapR cp]
    have h1 := qpc mx (Nat.le_refl _)
    have h2 := g.up mx
    rw [show mx + 1 + (c * manyP bs - 1) = mx + c * manyP bs by omega, Nat.add_zero]
    omega
  · show ((List.range (mx + 1)).map (vb b)).length ≤ 100000
    rw [List.length_map, List.length_range]; omega
  · show ((List.range (c * manyP bs)).map _).length ≤ 100000
    rw [List.length_map, List.length_range]; omega
  · show R * (c : Int) < 2 ^ 60
    omega
  · unfold Plain at hp
    have hne2 : (List.range (c * manyP bs)).map (fun i => vb b (mx + 1 + i)) ≠ [] := fun z => by
      have := congrArg List.length z
      simp at this
      omega
    rw [if_neg hne2] at hp
    have hv := val_of (v := vb b) (K := mx + 1) (p := c * manyP bs) (r := R * (c : Int)) cp (qpc.mono (by omega))
    have h1 : Canon (vb b) b'.1 b'.2.1 b'.2.2 := Canon.congr hp hv
    have h2 : Canon (vb b) b.1 b.2.1 b.2.2 := Canon.congr g.can fun n => (g.same n).symm
    obtain ⟨a1, a2, a3⟩ := h1.unique h2
    obtain ⟨u1, u2, u3⟩ := b'
    obtain ⟨w1, w2, w3⟩ := b
    dsimp only at a1 a2 a3
    rw [a1, a2, a3]
/-- all end -/
theorem Ended.vb {u : Nat} {b : Raw} (e : Ended u b) {n : Nat} (hn : n < u) : vb b n = b.1.getD n 0 := by
  unfold K28.vb
  exact val_lt (by rw [e.len]; exact hn)
theorem Ended.pvle {u : Nat} {b : Raw} (e : Ended u b) {n : Nat} (hn : n < u) : prv b n ≤ K28.vb b n := by
  cases n with
  | zero => rw [e.vb hn]; exact cnt_get e.cn (by rw [e.len]; exact hn)
  | succ n => rw [prv_succ, e.vb hn, e.vb (by omega)]; exact ris_get e.ri (by rw [e.len]; exact hn)
theorem Ended.eta {u : Nat} {b : Raw} (e : Ended u b) : b = (b.1, [], 0) := by
  obtain ⟨h, l, r⟩ := b
  have h1 := e.nl
  have h2 := e.r0
  dsimp only at h1 h2
  rw [h1, h2]
theorem fit_ended {u : Nat} (n1 : 0 < bs.length) (n3 : bs.length ≤ 3) (u10 : u ≤ 10) (hB : ∀ b ∈ bs, Ended u b) : Fit bs u ∧ endsB bs = true := by
  obtain ⟨b0, r, rfl⟩ : ∃ b0 r, bs = b0 :: r := by
    cases bs with
    | nil => simp at n1
    | cons b r => exact ⟨b, r, rfl⟩
  have ends : endsB (b0 :: r) = true := by
    unfold endsB
    refine decide_eq_true ?_
    show b0.2.1.length = 0
    rw [(hB b0 List.mem_cons_self).nl]; rfl
  have hal : ∀ b ∈ b0 :: r, endOf b = u := fun b hb => by
    unfold endOf
    rw [(hB b hb).nl, if_pos (show ([] : List Int).length = 0 from rfl), (hB b hb).len]
  have hs : startN (b0 :: r) u = u := by unfold startN; rw [ends]; rfl
  refine ⟨⟨fun b hb => ?_, fun b hb => ?_, ⟨b0, List.mem_cons_self, (hB b0 List.mem_cons_self).len⟩, fun b hb => by rw [(hB b hb).len]; exact Nat.le_refl _, by omega, fun n hn b hb => ?_, ?_, fun h => absurd (ends.symm.trans h) (by decide), fun h => absurd (ends.symm.trans h) (by decide)⟩, ends⟩
  · rw [hal b hb]; exact (hal b0 List.mem_cons_self).symm
  · have e := hB b hb
    exact ⟨by rw [e.len]; omega, by rw [e.nl]; decide, by rw [e.r0]; exact Int.le_refl 0, by rw [e.r0]; decide⟩
  · rw [hs, if_pos ends] at hn
    have e := hB b hb
    exact ⟨.inr (by rw [e.len]; omega), e.pvle (by omega)⟩
  · rw [hs]
    have h1 := seg_len (bs := b0 :: r) 0 u fun i hi b hb => by rw [Nat.zero_add]; exact (hB b hb).pvle hi
    have h2 := sum_le (fun b => prv b (0 + u) - prv b 0) 100 (b0 :: r) fun b hb => by
      rw [Nat.zero_add]
      have e0 : prv b 0 = 0 := rfl
      rw [e0]
      cases u with
      | zero => show (0 : Int) - 0 ≤ 100; decide
      | succ u => rw [prv_succ, (hB b hb).vb (by omega)]; have := (hB b hb).bd u; omega
    omega
theorem need_ended {u k c : Nat} {b : Raw} (u10 : u ≤ 10) (hB : ∀ b ∈ bs, Ended u b) (hb : bs[k]? = some b) (ends : endsB bs = true) :
    Good (needRaw (mkrOf bs u) k c).1 (needRaw (mkrOf bs u) k c).2.1 (needRaw (mkrOf bs u) k c).2.2 ∧ SzR (needRaw (mkrOf bs u) k c) ∧ ∀ b', Plain (needRaw (mkrOf bs u) k c) b' → b' = b := by
  have e := hB b (List.mem_of_getElem? hb)
  have hs : startN bs u = u := by unfold startN; rw [ends]; rfl
  have hbeg : (ahead k (mkrOf bs u).begin_ 0).1 = b.1 := by
    have := ahead_seg hb 0 0 (startN bs u) fun i hi b hb => by rw [Nat.zero_add]; rw [hs] at hi; exact (hB b hb).pvle hi
    unfold mkrOf
    rw [this, hs]
    refine list_ext (by rw [List.length_map, List.length_range, e.len]) fun i hi => ?_
    rw [List.length_map, List.length_range] at hi
    rw [getD_mapR hi, Nat.zero_add, e.vb hi]
    have e0 : prv b 0 = 0 := rfl
    rw [e0]
    omega
  have hrep : ∀ c : Nat, ∀ z, (ahead k (rep c [some 0]) z).1 = [] := by
    intro c
    induction c with
    | zero => intro z; simp [rep, ahead]
    | succ c ih =>
      intro z
      rw [rep_succ, ahead_app]
      dsimp only
      rw [ih]
      simp only [ahead, List.nil_append]
      split <;> rfl
  have hway : (mkrOf bs u).way = [some 0] := by unfold mkrOf; rw [ends]; rfl
  have hneed : needRaw (mkrOf bs u) k c = (b.1, [], 0) := by
    unfold needRaw
    rw [hway]
    dsimp only
    rw [if_pos (hrep c 0), hbeg]
  rw [hneed]
  refine ⟨⟨e.cn, e.ri, rfl, rfl, fun _ z => absurd rfl z, Int.le_refl 0, fun _ => rfl, fun z => absurd rfl z⟩, ⟨by show b.1.length ≤ _; rw [e.len]; omega, (by show 0 ≤ 100000; decide), Int.le_refl 0, (by show (0 : Int) < 2 ^ 60; decide)⟩, fun b' hp => ?_⟩
  unfold Plain at hp
  rw [if_pos rfl] at hp
  rw [hp]
  exact e.eta.symm
end
end K28
end
section
set_option Elab.async false
set_option linter.all false
set_option maxRecDepth 100000
set_option maxHeartbeats 4000000
namespace K28
open PySem PySem.Spec PyProof.Rows L2
open Evl (Ex)
def cutG {α : Type} (xs : List α) (lo hi : Option Int) : List α := (xs.drop (HT.sIx xs.length 0 lo)).take (HT.sIx xs.length xs.length hi - HT.sIx xs.length 0 lo)
theorem cut_map {α : Type} {xs : List α} {f : α → V} {lo hi : Option Int} : cutV (xs.map f) lo hi = (cutG xs lo hi).map f := by
  unfold cutV cutG
  rw [List.length_map, List.map_take, List.map_drop]
theorem bits_lt {z : Int} {n : Nat} (h : Builtin.Int.intBits z ≤ n) : z.natAbs < 2 ^ n := by
  unfold Builtin.Int.intBits at h
  split at h
  · rename_i e
    have : z = 0 := by simpa using e
    subst this
    exact Nat.two_pow_pos n
  · rename_i e
    have : z.natAbs ≠ 0 := by simpa using e
    exact (Nat.log2_lt this).mp (by omega)
section
variable {P : Program} {w : World} {K : PySem.W.Frag} {mg : Str → Option Value} {base : Heap} {CT CM CB CF : Addr}
def spSource (K : PySem.W.Frag) : Sp := fun vs H Q _ => ∃ (a : Addr) (xs : List Int), vs = [.ref a, .int 0] ∧ SqL K H a (xs.map V.int) ∧ (∀ z ∈ xs, Builtin.Int.intBits z ≤ 1048576) ∧
  ∀ (H' : Hp) (p : Addr) (n s c : Int), Ex H H' → H' p = some (.lst [.int n, .int s, .int c]) → Q (.ref p) H'
abbrev s__law_source : Stmt := top 69
theorem sc__law_source : FnScope ["_law_script", "_law_place", "_law_cell", "_law_seed", "_law_one", "_law_number"] ["_law_script", "_law_place"] (defScope s__law_source) := ⟨rfl, rfl, rfl, by decide +kernel, rfl, by decide +kernel, by decide +kernel⟩
theorem ok_law_source {f : Addr} {fd : FuncData} (F : Fun K "_law_source" "_law_source" s__law_source f fd) (T : Txt K mg CT CM) : FnOk P w K mg base CX0 1 f fd ["_law_script", "_law_place"] (spSource K) := by
  refine F.ok sc__law_source (fun vs H Q E h => ?_) (fun cdv A outer s H vs Q E hr h => ?_)
  · obtain ⟨_, _, rfl, _⟩ := h
    rfl
  · obtain ⟨a, xs, rfl, hA, hb, q⟩ := h
    refine ⟨_, (pss_cons (ps_set (i := 2) sc__law_source.nd rfl (Or.inl rfl) (pe_ifExp (pt_cmpR op_lt (pv 1) (pe_callB (r := Evl.rLenS K) call_len_seq (by rfl) T.b_len PySem.boot_len (pa_cons (pv 0) pa_nil)) (nomark _)) (pe_ix (r := rIxL K) ix_list (pv 0) (pv 1) (fun _ _ => rfl)) (pe_op op_add (pe_op op_mul pe_int (pv 1)) pe_int)))
      (pss_cons (ps_set (i := 3) sc__law_source.nd rfl (Or.inl rfl) (pe_op op_mod (pe_callTy call_int1 (by rfl) T.b_int (by decide +kernel) (pa_cons (pe_op op_add (pe_op op_mod (pe_callTy call_int1 (by rfl) T.b_int (by decide +kernel) (pa_cons (pv 2) pa_nil)) pe_int) (pe_op op_mul pe_int (pv 1))) pa_nil)) pe_int))
      (pss_cons (ps_for PassesOwn.never rfl (pi_list (pe_slice (r := rSlL K) sl_list (pv 0) po_none (po_some pe_int))) (pg_name (i := 4) sc__law_source.nd rfl (Or.inl rfl)) (pss_one (ps_set (i := 3) sc__law_source.nd rfl (Or.inl rfl) (pe_op op_mod (pe_callTy call_int1 (by rfl) T.b_int (by decide +kernel) (pa_cons (pe_op op_add (pe_op op_mul (pv 3) pe_int) (pe_op op_mod (pe_callTy call_int1 (by rfl) T.b_int (by decide +kernel) (pa_cons (pv 4) pa_nil)) pe_int)) pa_nil)) pe_int))))
      (pss_cons (ps_set (i := 5) sc__law_source.nd rfl (Or.inl rfl) (pe_callB call_abs (by rfl) T.b_abs (by decide +kernel) (pa_cons (pv 2) pa_nil)))
      (pss_cons (ps_if (pt_cmpR op_lt (pv 5) (pe_op op_pow pe_int pe_int) (nomark _)) (pss_one (ps_ret (pe_lst (pa_cons pe_int (pa_cons (pv 3) (pa_cons pe_int pa_nil)))))) pss_nil)
      (pss_cons (ps_if (pt_cmpR op_gt (pe_op op_shr (pv 5) pe_int) pe_int (nomark _)) (pss_one (ps_set (i := 5) sc__law_source.nd rfl (Or.inl rfl) (pe_op op_sub (pv 5) (pe_op op_shlW (pe_op op_shr (pv 5) pe_int) pe_int)))) pss_nil)
      (pss_one (ps_ret (pe_lst (pa_cons (pv 5) (pa_cons (pv 3) (pa_cons pe_int pa_nil)))))))))))), ?_⟩
    obtain ⟨z, hz, hk⟩ : ∃ z : Int, Builtin.Int.intBits z ≤ 1048576 ∧ ∀ R : VK, R (.int z) H → (tIf (tTest (tOp (rI0 fun i j => .bl (decide (i < j))) (tVar 1) (tCB (Evl.rLenS K) (tCons (tVar 0) tNil)))) (tOp (rIxL K) (tVar 0) (tVar 1))
        (tOp (rI0 fun i j => .int (i + j)) (tOp (rI CMul fun i j => .int (i * j)) (tC (.int 3)) (tVar 1)) (tC (.int 1)))) [some (.ref a), some (.int 0), none, none, none, none] H R := by
      cases xs with
      | nil => exact ⟨1, by decide +kernel, fun R hR => ⟨_, rfl, _, rfl, a, _, rfl, .inl hA, _, _, rfl, rfl, _, rfl, if_f (by decide) ⟨_, rfl, _, _, rfl, rfl, .inl (by omega), _, _, rfl, rfl, hR⟩⟩⟩
      | cons z r =>
        refine ⟨z, hb z List.mem_cons_self, fun R hR => ⟨_, rfl, _, rfl, a, _, rfl, .inl hA, _, _, rfl, rfl, _, rfl, if_t (decide_eq_true ?_) ⟨_, rfl, _, rfl, a, _, _, _, rfl, rfl, hA, atI_nat (j := 0) rfl, hR⟩⟩⟩
        rw [List.length_map, List.length_cons]
        omega
    refine sq1 (as1 (hk _ ?_))
    try dsimp only
    refine sq1 ⟨_, rfl, .inl ⟨_, rfl, _, _, rfl, rfl, by omega, _, rfl, _, _, rfl, rfl, .inl (by omega), _, _, rfl, rfl, .inl ⟨_, rfl, _, _, rfl, rfl, by omega, ?_⟩⟩⟩
    refine gn1 ?_
    try dsimp only
    refine sq1 (fr_fb ?_)
    refine ⟨_, rfl, _, rfl, a, _, rfl, hA, fun p hp => ?_⟩
    try dsimp only
    rw [cut_map]
    have e1 : Ex H (upd H p (.lst ((cutG xs none (some 2)).map V.int))) := Evl.Ex.new hp
    have p1 : upd H p (.lst ((cutG xs none (some 2)).map V.int)) p = some (.lst ((cutG xs none (some 2)).map V.int)) := upd_same
    generalize upd H p (.lst ((cutG xs none (some 2)).map V.int)) = H1 at *
    refine ⟨p, rfl, ⟨_, sq_l p1⟩, fb_go wk_list (fun i σ' H' => ∃ (s : Int) (x : Option V), σ' = [some (.ref a), some (.int 0), some (.int z), some (.int s), x, none] ∧ H' = H1) ⟨_, none, rfl, rfl⟩ (fun i σ' H' _ ⟨_, _, _, e⟩ => by rw [e]; exact sq_l p1) ?_ ?_⟩
    · rintro i x σ' H' hi hx ⟨s, x0, rfl, rfl⟩
      obtain ⟨y, hy, rfl⟩ := get_map hx
      refine ⟨_, rfl, _, _, rfl, rfl, .inr (by omega), _, rfl, .inl ⟨_, rfl, _, _, rfl, rfl, by omega, _, _, rfl, rfl, .inl ⟨_, rfl, _, _, rfl, rfl, by omega, ?_⟩⟩⟩
      exact ⟨_, _, rfl, rfl⟩
    · rintro σ' H' ⟨s, x0, rfl, rfl⟩
      try dsimp only
      refine sq1 ⟨_, rfl, z, rfl, ?_⟩
      have hn0 : 0 ≤ (if z < 0 then -z else z) := by split <;> omega
      have hn1 : (if z < 0 then -z else z).natAbs = z.natAbs := by split <;> omega
      generalize (if z < 0 then -z else z) = n at *
      have hnb : n.natAbs < 2 ^ 1048576 := by rw [hn1]; exact bits_lt hz
      refine gn1 ?_
      try dsimp only
      have e18 : (10 : Int) ^ (18 : Int).toNat = 1000000000000000000 := by decide
      refine sq1 ⟨_, rfl, _, _, rfl, rfl, ⟨by decide, by decide, by decide⟩, _, _, rfl, rfl, _, rfl, ?_⟩
      rw [e18]
      refine ite2 (fun c => ?_) (fun c => ?_)
      · exact ⟨_, rfl, (by show 3 ≤ sizeLine; decide), fun p hp => q _ p 0 s 0 (e1.trans (Evl.Ex.new hp)) upd_same⟩
      · unfold tNext
        try dsimp only
        refine sq1 ⟨_, rfl, _, _, rfl, rfl, (show (0 : Int) ≤ 4000 by decide), _, _, rfl, rfl, _, rfl, ite2 (fun c2 => ?_) (fun c2 => ?_)⟩
        · refine ⟨_, rfl, _, rfl, _, _, rfl, rfl, (show (0 : Int) ≤ 4000 by decide), _, _, rfl, rfl, ?_, _, _, rfl, rfl, ?_⟩
          · refine shl_ok (j := 4000) (n := 1048576) ?_ (by decide)
            have hk : (0 : Int) < 2 ^ (4000 : Int).toNat := Int.pow_pos (by decide)
            generalize (2 : Int) ^ (4000 : Int).toNat = k at *
            have h1 : n / k ≤ n := Int.ediv_le_self k hn0
            have h2 : 0 ≤ n / k := Int.ediv_nonneg hn0 (by omega)
            have h3 : (n / k).natAbs ≤ n.natAbs := by omega
            exact Nat.lt_of_le_of_lt h3 hnb
          · exact ⟨_, rfl, _, rfl, (by show 3 ≤ sizeLine; decide), fun p hp => q _ p _ s 0 (e1.trans (Evl.Ex.new hp)) upd_same⟩
        · exact ⟨_, rfl, _, rfl, (by show 3 ≤ sizeLine; decide), fun p hp => q _ p _ s 0 (e1.trans (Evl.Ex.new hp)) upd_same⟩
def spPick : Sp := fun vs H Q _ => ∃ (a : Addr) (n s c : Int) (m : Nat), vs = [.ref a, .int (m : Int)] ∧ H a = some (.lst [.int n, .int s, .int c]) ∧ 0 < m ∧ m < 1000 ∧
  ∀ (H' : Hp) (d : Nat) (n' s' c' : Int), But a H H' → H' a = some (.lst [.int n', .int s', .int c']) → d < m → Q (.int (d : Int)) H'
abbrev s__law_pick : Stmt := top 70
theorem sc__law_pick : FnScope ["_law_source_here", "_law_many", "_law_digit", "_law_value"] ["_law_source_here", "_law_many"] (defScope s__law_pick) := ⟨rfl, rfl, rfl, by decide +kernel, rfl, by decide +kernel, by decide +kernel⟩
theorem ok_law_pick {f : Addr} {fd : FuncData} (F : Fun K "_law_pick" "_law_pick" s__law_pick f fd) (T : Txt K mg CT CM) : FnOk P w K mg base CX0 1 f fd ["_law_source_here", "_law_many"] spPick := by
  refine F.ok sc__law_pick (fun vs H Q E h => ?_) (fun cdv A outer s H vs Q E hr h => ?_)
  · obtain ⟨_, _, _, _, _, rfl, _⟩ := h
    rfl
  · obtain ⟨a, n, s0, c_1, m, rfl, hA, hm, hm2, q⟩ := h
    refine ⟨_, (pss_cons (ps_if (pt_cmpR op_gt (pe_ix (r := rIxL K) ix_list (pv 0) pe_int (fun _ _ => rfl)) pe_int (nomark _)) (pss_cons (ps_set (i := 2) sc__law_pick.nd rfl (Or.inl rfl) (pe_op op_mod (pe_callTy call_int1 (by rfl) T.b_int (by decide +kernel) (pa_cons (pe_ix (r := rIxL K) ix_list (pv 0) pe_int (fun _ _ => rfl)) pa_nil)) (pv 1)))
      (pss_cons (ps_asg (pe_op op_fdiv (pe_ix (r := rIxL K) ix_list (pv 0) pe_int (fun _ _ => rfl)) (pv 1)) (pg_sub (pv 0) pe_int set_list))
      (pss_one (ps_ret (pv 2))))) pss_nil)
      (pss_cons (ps_asg (pe_op op_add (pe_ix (r := rIxL K) ix_list (pv 0) pe_int (fun _ _ => rfl)) pe_int) (pg_sub (pv 0) pe_int set_list))
      (pss_cons (ps_set (i := 3) sc__law_pick.nd rfl (Or.inl rfl) (pe_op op_mod (pe_callTy call_int1 (by rfl) T.b_int (by decide +kernel) (pa_cons (pe_op op_mul (pe_op op_add (pe_ix (r := rIxL K) ix_list (pv 0) pe_int (fun _ _ => rfl)) (pe_op op_mul pe_int (pe_ix (r := rIxL K) ix_list (pv 0) pe_int (fun _ _ => rfl)))) pe_int) pa_nil)) pe_int))
      (pss_cons (ps_set (i := 3) sc__law_pick.nd rfl (Or.inl rfl) (pe_op op_mod (pe_callTy call_int1 (by rfl) T.b_int (by decide +kernel) (pa_cons (pe_op op_add (pe_op op_add (pe_op op_mul (pv 3) (pv 3)) (pe_op op_mul pe_int (pe_ix (r := rIxL K) ix_list (pv 0) pe_int (fun _ _ => rfl)))) (pe_ix (r := rIxL K) ix_list (pv 0) pe_int (fun _ _ => rfl))) pa_nil)) pe_int))
      (pss_cons (ps_set (i := 3) sc__law_pick.nd rfl (Or.inl rfl) (pe_op op_mod (pe_callTy call_int1 (by rfl) T.b_int (by decide +kernel) (pa_cons (pe_op op_add (pe_op op_mul (pv 3) pe_int) pe_int) pa_nil)) pe_int))
      (pss_cons (ps_set (i := 3) sc__law_pick.nd rfl (Or.inl rfl) (pe_op op_mod (pe_callTy call_int1 (by rfl) T.b_int (by decide +kernel) (pa_cons (pe_op op_add (pe_op op_mul (pv 3) (pv 3)) (pv 3)) pa_nil)) pe_int))
      (pss_one (ps_ret (pe_op op_mod (pe_callTy call_int1 (by rfl) T.b_int (by decide +kernel) (pa_cons (pe_op op_fdiv (pv 3) pe_int) pa_nil)) (pv 1)))))))))), ?_⟩
    have hmi : (0 : Int) < (m : Int) := by omega
    have dig : ∀ z : Int, ∃ d : Nat, z % (m : Int) = (d : Int) ∧ d < m := fun z => ⟨(z % (m : Int)).toNat, by have := Int.emod_nonneg z (show (m : Int) ≠ 0 by omega); omega, by have := Int.emod_lt_of_pos z hmi; have := Int.emod_nonneg z (show (m : Int) ≠ 0 by omega); omega⟩
    refine sq1 ?_
    refine ⟨_, rfl, a, _, _, _, rfl, rfl, sq_l hA, atI_nat (j := 0) rfl, _, _, rfl, rfl, _, rfl, ite2 (fun c => ?_) (fun c => ?_)⟩
    · obtain ⟨d, hd, hdm⟩ := dig n
      refine sq1 ⟨_, rfl, a, _, _, _, rfl, rfl, sq_l hA, atI_nat (j := 0) rfl, .inl ⟨_, rfl, _, rfl, _, _, rfl, rfl, hmi, ?_⟩⟩
      dsimp only
      rw [hd]
      refine gn1 ?_
      try dsimp only
      refine sq1 ⟨_, rfl, a, _, _, _, rfl, rfl, sq_l hA, atI_nat (j := 0) rfl, _, rfl, _, _, rfl, rfl, ⟨hmi, by omega⟩, _, rfl, a, _, 0, 0, rfl, rfl, hA, rfl, ?_⟩
      exact ⟨_, rfl, q _ d _ _ _ But.self upd_same hdm⟩
    · unfold tNext
      try dsimp only
      refine sq1 ⟨_, rfl, a, _, _, _, rfl, rfl, sq_l hA, atI_nat (j := 2) rfl, _, _, rfl, rfl, _, rfl, a, _, 2, 2, rfl, rfl, hA, rfl, ?_⟩
      try dsimp only
      have hB : upd H a (.lst ([V.int n, .int s0, .int c_1].set 2 (.int (c_1 + 1)))) a = some (.lst [.int n, .int s0, .int (c_1 + 1)]) := upd_same
      have bB : But a H (upd H a (.lst ([V.int n, .int s0, .int c_1].set 2 (.int (c_1 + 1))))) := But.self
      generalize upd H a (.lst ([V.int n, .int s0, .int c_1].set 2 (.int (c_1 + 1)))) = H1 at *
      have lB := sq_l (K := K) hB
      have small : ∀ z : Int, ∃ d : Int, z % 2147483647 = d ∧ 0 ≤ d ∧ d < 2147483647 := fun z => ⟨_, rfl, Int.emod_nonneg z (by decide), Int.emod_lt_of_pos z (by decide)⟩
      refine sq1 ⟨_, rfl, a, _, _, _, rfl, rfl, lB, atI_nat (j := 1) rfl, _, rfl, a, _, _, _, rfl, rfl, lB, atI_nat (j := 2) rfl, _, _, rfl, rfl, .inl (by omega), _, _, rfl, rfl, _, _, rfl, rfl, .inr (by omega), .inl ⟨_, rfl, _, _, rfl, rfl, by omega, ?_⟩⟩
      dsimp only
      obtain ⟨d1, hd1, l1, u1⟩ := small ((s0 + 104729 * (c_1 + 1)) * 48271)
      rw [hd1]
      refine gn1 ?_
      try dsimp only
      refine sq1 ⟨_, rfl, _, rfl, _, _, rfl, rfl, .inl (by omega), _, rfl, a, _, _, _, rfl, rfl, lB, atI_nat (j := 2) rfl, _, _, rfl, rfl, .inl (by omega), _, _, rfl, rfl, _, rfl, a, _, _, _, rfl, rfl, lB, atI_nat (j := 1) rfl, _, _, rfl, rfl, .inl ⟨_, rfl, _, _, rfl, rfl, by omega, ?_⟩⟩
      dsimp only
      generalize (d1 * d1 + 7 * (c_1 + 1) + s0) % 2147483629 = d2
      refine gn1 ?_
      try dsimp only
      refine sq1 ⟨_, rfl, _, _, rfl, rfl, .inr (by omega), _, _, rfl, rfl, .inl ⟨_, rfl, _, _, rfl, rfl, by omega, ?_⟩⟩
      dsimp only
      obtain ⟨d3, hd3, l3, u3⟩ := small (d2 * 69621 + 5)
      rw [hd3]
      refine gn1 ?_
      try dsimp only
      refine sq1 ⟨_, rfl, _, rfl, _, _, rfl, rfl, .inl (by omega), _, rfl, _, _, rfl, rfl, .inl ⟨_, rfl, _, _, rfl, rfl, by omega, ?_⟩⟩
      dsimp only
      generalize (d3 * d3 + d3) % 2147483587 = d4
      refine gn1 ?_
      try dsimp only
      obtain ⟨d, hd, hdm⟩ := dig (d4 / 5)
      refine rt1 ⟨_, rfl, _, _, rfl, rfl, ⟨by omega, by omega⟩, .inl ⟨_, rfl, _, rfl, _, _, rfl, rfl, hmi, ?_⟩⟩
      dsimp only
      rw [hd]
      exact q _ d _ _ _ bB hB hdm
end
end K28
end
section
set_option Elab.async false
set_option linter.all false
set_option maxRecDepth 100000
set_option maxHeartbeats 4000000
namespace K28
open PySem PySem.Spec PyProof.Rows L2
open Evl (Ex)
def SrcAt (H : Hp) (a : Addr) : Prop := ∃ n s c, H a = some (.lst [.int n, .int s, .int c])
/-- ns goes up from lo by less than st each time -/
def Rs (lo : Int) (st : Nat) (ns : List Int) : Prop := ∀ i, i < ns.length → (if i = 0 then lo else ns.getD (i - 1) 0) ≤ ns.getD i 0 ∧ ns.getD i 0 < (if i = 0 then lo else ns.getD (i - 1) 0) + st
def lastOr (lo : Int) (ns : List Int) : Int := if ns.length = 0 then lo else ns.getD (ns.length - 1) 0
theorem gd_l {a b : List Int} {i : Nat} (h : i < a.length) : (a ++ b).getD i 0 = a.getD i 0 := by rw [List.getD_eq_getElem?_getD, List.getD_eq_getElem?_getD, List.getElem?_append_left h]
theorem gd_r {a : List Int} {z : Int} : (a ++ [z]).getD a.length 0 = z := by rw [List.getD_eq_getElem?_getD, List.getElem?_append_right (Nat.le_refl _), Nat.sub_self]; rfl
theorem Rs.snoc {lo : Int} {st : Nat} {ns : List Int} {z : Int} (h : Rs lo st ns) (h1 : lastOr lo ns ≤ z) (h2 : z < lastOr lo ns + st) : Rs lo st (ns ++ [z]) := by
  intro i hi
  rw [List.length_append, List.length_singleton] at hi
  by_cases c : i < ns.length
  · have := h i c
    rw [gd_l c]
    by_cases c0 : i = 0
    · rw [if_pos c0] at this ⊢; exact this
    · rw [if_neg c0] at this ⊢
      rw [gd_l (by omega)]
      exact this
  · have e : i = ns.length := by omega
    subst e
    have e1 : (ns ++ [z]).getD ns.length 0 = z := gd_r
    rw [e1]
    unfold lastOr at h1 h2
    by_cases c0 : ns.length = 0
    · rw [if_pos c0] at h1 h2 ⊢; exact ⟨h1, h2⟩
    · rw [if_neg c0] at h1 h2 ⊢
      rw [gd_l (by omega)]
      exact ⟨h1, h2⟩
theorem lastOr_snoc (lo : Int) (ns : List Int) (z : Int) : lastOr lo (ns ++ [z]) = z := by
  unfold lastOr
  rw [List.length_append, List.length_singleton, if_neg (by omega), Nat.add_sub_cancel, gd_r]
theorem Rs.up {lo : Int} {st : Nat} {ns : List Int} (h : Rs lo st ns) : ∀ {j i : Nat}, i ≤ j → j < ns.length → ns.getD i 0 ≤ ns.getD j 0 ∧ ns.getD j 0 ≤ ns.getD i 0 + ((st : Int) - 1) * ((j : Int) - i) := by
  intro j
  induction j with
  | zero =>
    intro i hi hj
    obtain rfl : i = 0 := by omega
    simp
  | succ j ih =>
    intro i hi hj
    by_cases c : i = j + 1
    · subst c; simp
    · obtain ⟨a, b⟩ := ih (i := i) (by omega) (by omega)
      have s := h (j + 1) hj
      rw [if_neg (by omega), Nat.add_sub_cancel] at s
      have e : ((st : Int) - 1) * (((j + 1 : Nat) : Int) - i) = ((st : Int) - 1) * ((j : Int) - i) + ((st : Int) - 1) := by
        rw [show (((j + 1 : Nat) : Int) - i) = ((j : Int) - i) + 1 by omega, Int.mul_add, Int.mul_one]
      rw [e]
      omega
theorem Rs.zero {lo : Int} {st : Nat} {ns : List Int} (h : Rs lo st ns) (h0 : 0 < ns.length) : lo ≤ ns.getD 0 0 ∧ ns.getD 0 0 < lo + st := by
  have := h 0 h0
  rw [if_pos rfl] at this
  exact this
theorem Rs.rising {lo : Int} {st : Nat} {ns : List Int} (h : Rs lo st ns) : K28.rising ns = true := ris_of fun i hi => (h.up (Nat.le_succ i) hi).1
theorem Rs.cnt {lo : Int} {st : Nat} {ns : List Int} (h : Rs lo st ns) (l0 : 0 ≤ lo) : K28.cnt ns = true := cnt_of fun i hi => by
  have := h.zero (by omega)
  have := (h.up (Nat.zero_le i) hi).1
  omega
/-- what the law's maker of tables makes goes on -/
theorem steady_of {h l : List Int} {r : Int} (hh : Rs 0 3 h) (hl : Rs (lastOr 0 h) 3 l) (h4 : h.length ≤ 4) (l1 : 1 ≤ l.length) (l4 : l.length ≤ 4) (r0 : l.getD (l.length - 1) 0 - l.getD 0 0 ≤ r) (r1 : r ≤ 10) (rp : 0 ≤ r) : Steady (h, l, r) := by
  have hb : ∀ i, i < h.length → 0 ≤ h.getD i 0 ∧ h.getD i 0 ≤ 8 := fun i hi => by
    have a := hh.zero (by omega)
    obtain ⟨b, c⟩ := hh.up (Nat.zero_le i) hi
    have : ((3 : Nat) : Int) - 1 = 2 := rfl
    rw [this] at c
    omega
  have lob : 0 ≤ lastOr 0 h ∧ lastOr 0 h ≤ 8 := by
    unfold lastOr
    split
    · omega
    · exact hb _ (by omega)
  have lb : ∀ i, i < l.length → 0 ≤ l.getD i 0 ∧ l.getD i 0 ≤ 16 := fun i hi => by
    have a := hl.zero (by omega)
    obtain ⟨b, c⟩ := hl.up (Nat.zero_le i) hi
    have : ((3 : Nat) : Int) - 1 = 2 := rfl
    rw [this] at c
    omega
  refine ⟨⟨hh.cnt (Int.le_refl 0), hh.rising, hl.cnt lob.1, hl.rising, fun hn _ => ?_, rp, fun z => ?_, fun _ => ?_⟩, l1, l4, h4, fun n => ?_, r1⟩
  · have := (hl.zero l1).1
    unfold lastOr at this
    rw [if_neg (fun z => hn (List.eq_nil_of_length_eq_zero z))] at this
    exact this
  · rw [show l = [] from z] at l1; simp at l1
  · show l.getD (l.length - 1) 0 ≤ l.getD 0 0 + r
    omega
  · show val h l r n ≤ 16 + 10 * (n : Int)
    by_cases c : n < h.length
    · rw [val_lt c]
      have := hb n c
      omega
    · obtain ⟨t, rfl⟩ := Nat.exists_eq_add_of_le (show h.length ≤ n by omega)
      rw [val_ge]
      have a := (lb (t % l.length) (Nat.mod_lt _ l1)).2
      have b : t / l.length ≤ t := Nat.div_le_self _ _
      have d : r * ((t / l.length : Nat) : Int) ≤ 10 * ((t / l.length : Nat) : Int) := Int.mul_le_mul_of_nonneg_right r1 (Int.natCast_nonneg _)
      generalize t / l.length = q at *
      omega
theorem pick8 {ns : List Int} {d : Nat} (lo hi : Int) (h : ns.all (fun z => decide (lo ≤ z) && decide (z ≤ hi)) = true) (hd : d < ns.length) (h0 : 0 ≤ lo) : ∃ m : Nat, ns.getD d 0 = (m : Int) ∧ lo ≤ m ∧ (m : Int) ≤ hi := by
  rw [List.all_eq_true] at h
  have e : ns.getD d 0 = ns[d] := by rw [List.getD_eq_getElem?_getD, List.getElem?_eq_getElem hd]; rfl
  have := h _ (List.getElem_mem hd)
  rw [Bool.and_eq_true] at this
  have h1 := of_decide_eq_true this.1
  have h2 := of_decide_eq_true this.2
  refine ⟨(ns.getD d 0).toNat, ?_, ?_, ?_⟩ <;> rw [e] <;> omega
section
variable {P : Program} {w : World} {K : PySem.W.Frag} {mg : Str → Option Value} {base : Heap} {CT CM CB CF : Addr}
def spRis : Sp := fun vs H Q _ => ∃ (a : Addr) (m st : Nat) (lo : Int), vs = [.ref a, .int (m : Int), .int lo, .int (st : Int)] ∧ SrcAt H a ∧ m ≤ 1000 ∧ 0 < st ∧ st < 1000 ∧
  ∀ (H' : Hp) (p : Addr) (ns : List Int), But a H H' → SrcAt H' a → H p = none → H' p = some (.lst (ns.map V.int)) → ns.length = m → Rs lo st ns → Q (.ref p) H'
abbrev s__law_rising : Stmt := top 73
theorem sc__law_rising : FnScope ["_law_source_here", "_law_many", "_law_low", "_law_steps", "_law_told", "_law_value", "_law_k"] ["_law_source_here", "_law_many", "_law_low", "_law_steps"] (defScope s__law_rising) := ⟨rfl, rfl, rfl, by decide +kernel, rfl, by decide +kernel, by decide +kernel⟩
theorem ok_law_rising {f : Addr} {fd : FuncData} (F : Fun K "_law_rising" "_law_rising" s__law_rising f fd) (T : Txt K mg CT CM) (c__law_pick : C8.Cal P w K mg base 1 "_law_pick" spPick []) : FnOk P w K mg base CX0 2 f fd ["_law_source_here", "_law_many", "_law_low", "_law_steps"] spRis := by
  refine F.ok sc__law_rising (fun vs H Q E h => ?_) (fun cdv A outer s H vs Q E hr h => ?_)
  · obtain ⟨_, _, _, _, rfl, _⟩ := h
    rfl
  · obtain ⟨a, m, st, lo, rfl, ⟨n0, s0, c0, hA⟩, hm, hst, hst2, q⟩ := h
    refine ⟨_, (pss_cons (ps_set (i := 4) sc__law_rising.nd rfl (Or.inl rfl) (pe_lst pa_nil))
      (pss_cons (ps_set (i := 5) sc__law_rising.nd rfl (Or.inl rfl) (pv 2))
      (pss_cons (ps_for PassesOwn.never rfl (pi_range1 rfl T.b_range (pa_cons (pv 1) pa_nil)) (pg_name (i := 6) sc__law_rising.nd rfl (Or.inl rfl)) (pss_cons (ps_set (i := 5) sc__law_rising.nd rfl (Or.inl rfl) (pe_op op_add (pv 5) (C8.pe_c c__law_pick hr (by omega) rfl (pa_cons (pv 0) (pa_cons (pv 3) pa_nil)))))
      (pss_one (ps_expr (pe_bm PySem.F.plainAttrs_list PySem.F.slot_list_append PySem.F.type_list_append mt_append (pv 4) (pa_cons (pv 5) pa_nil))))))
      (pss_one (ps_ret (pv 4)))))), ?_⟩
    refine sq1 ⟨Nat.zero_le _, fun p hp => ?_⟩
    have e1 : Ex H (upd H p (.lst [])) := Evl.Ex.new hp
    have p1 : upd H p (.lst []) p = some (.lst (([] : List Int).map V.int)) := upd_same
    generalize upd H p (.lst []) = H1 at *
    have npa : p ≠ a := fun z => by rw [z, hA] at hp; cases hp
    refine gn1 ?_
    try dsimp only
    refine sq1 ⟨_, rfl, ?_⟩
    refine gn1 ?_
    try dsimp only
    refine sq1 (fr_fb ?_)
    refine ⟨_, rfl, _, rfl, by omega, by omega, ?_⟩
    refine fb_go wk_range (fun i σ' H' => ∃ (ns : List Int) (x : Option V), σ' = [some (.ref a), some (.int (m : Int)), some (.int lo), some (.int (st : Int)), some (.ref p), some (.int (lastOr lo ns)), x] ∧ But a H H' ∧ SrcAt H' a ∧ H' p = some (.lst (ns.map V.int)) ∧ ns.length = i ∧ Rs lo st ns)
      ⟨[], none, rfl, .of e1, ⟨n0, s0, c0, e1 _ _ hA⟩, p1, rfl, fun i hi => absurd hi (Nat.not_lt_zero i)⟩ (fun i σ' H' _ _ => True.intro) ?_ ?_
    · rintro i x σ' H' hi hx ⟨ns, x0, rfl, b1, ⟨n1, s1, c1, hA1⟩, hp1, hl, hr⟩
      refine gn1 ?_
      try dsimp only
      refine sq1 ⟨_, rfl, _, rfl, _, rfl, a, n1, s1, c1, st, rfl, hA1, hst, hst2, fun H2 d n2 s2 c2 b2 hA2 hd => ?_⟩
      have hp2 := b2 p _ npa hp1
      refine ⟨_, _, rfl, rfl, ?_⟩
      refine gn1 ?_
      try dsimp only
      refine ⟨_, rfl, .inl ⟨rfl, _, sq_l hp2⟩, _, rfl, p, _, _, rfl, rfl, hp2, Evl.sz_lt (by rw [List.length_map]; omega), ?_⟩
      refine ⟨ns ++ [lastOr lo ns + (d : Int)], some x, ?_, (b1.trans b2).mut hp, ⟨n2, s2, c2, by rw [upd_ne npa.symm]; exact hA2⟩, by rw [upd_same, List.map_append]; rfl, by rw [List.length_append, hl]; rfl, hr.snoc (by omega) (by omega)⟩
      rw [lastOr_snoc]
      rfl
    · rintro σ' H' ⟨ns, x0, rfl, b1, hA1, hp1, hl, hr⟩
      exact ⟨_, rfl, q H' p ns b1 hA1 hp hp1 hl hr⟩
def spRaw (K : PySem.W.Frag) : Sp := fun vs H Q _ => ∃ a, vs = [.ref a, .bl true] ∧ SrcAt H a ∧ ∀ (H' : Hp) (v : V) (x : Raw), But a H H' → SrcAt H' a → Tp K H' v (rawD x) → Steady x → Q v H'
abbrev s__law_raw : Stmt := top 74
theorem sc__law_raw : FnScope ["_law_source_here", "_law_steady", "_law_head", "_law_low", "_law_many", "_law_loop", "_law_more", "_law_rise"] ["_law_source_here", "_law_steady"] (defScope s__law_raw) := ⟨rfl, rfl, rfl, by decide +kernel, rfl, by decide +kernel, by decide +kernel⟩
theorem ok_law_raw {f : Addr} {fd : FuncData} (F : Fun K "_law_raw" "_law_raw" s__law_raw f fd) (T : Txt K mg CT CM) (c__law_pick : C8.Cal P w K mg base 1 "_law_pick" spPick []) (c__law_rising : C8.Cal P w K mg base 2 "_law_rising" spRis []) : FnOk P w K mg base CX0 3 f fd ["_law_source_here", "_law_steady"] (spRaw K) := by
  refine F.ok sc__law_raw (fun vs H Q E h => ?_) (fun cdv A outer s H vs Q E hr h => ?_)
  · obtain ⟨_, rfl, _⟩ := h
    rfl
  · obtain ⟨a, rfl, ⟨n0, s0, c0, hA⟩, q⟩ := h
    refine ⟨_, (pss_cons (ps_set (i := 2) sc__law_raw.nd rfl (Or.inl rfl) (C8.pe_c c__law_rising hr (by omega) rfl (pa_cons (pv 0) (pa_cons (pe_ix (r := rIxL K) ix_list (pe_lst (pa_cons pe_int (pa_cons pe_int (pa_cons pe_int (pa_cons pe_int (pa_cons pe_int (pa_cons pe_int (pa_cons pe_int (pa_cons pe_int pa_nil))))))))) (C8.pe_c c__law_pick hr (by omega) rfl (pa_cons (pv 0) (pa_cons pe_int pa_nil))) (fun _ _ => rfl)) (pa_cons pe_int (pa_cons pe_int pa_nil))))))
      (pss_cons (ps_set (i := 3) sc__law_raw.nd rfl (Or.inl rfl) (pe_ifExp (pt_cmpR op_gt (pe_callB (r := Evl.rLenS K) call_len_seq (by rfl) T.b_len PySem.boot_len (pa_cons (pv 2) pa_nil)) pe_int (nomark _)) (pe_ix (r := rIxL K) ix_list (pv 2) (pe_un un_neg pe_int) (fun _ _ => rfl)) pe_int))
      (pss_cons (ps_if (PW.pt (pw_and (pt_not (pt_val (pv 1))) (pw_and1 (pt_cmpR op_eq (C8.pe_c c__law_pick hr (by omega) rfl (pa_cons (pv 0) (pa_cons pe_int pa_nil))) pe_int (nomark _))))) (pss_one (ps_ret (pe_tup (pa_cons (pe_callTy (r := rTupOf K) call_tuple_of (by rfl) T.b_tuple (by decide +kernel) (pa_cons (pv 2) pa_nil)) (pa_cons (pe_tup pa_nil) (pa_cons pe_int pa_nil)))))) pss_nil)
      (pss_cons (ps_set (i := 4) sc__law_raw.nd rfl (Or.inl rfl) (pe_ix (r := rIxL K) ix_list (pe_lst (pa_cons pe_int (pa_cons pe_int (pa_cons pe_int (pa_cons pe_int (pa_cons pe_int (pa_cons pe_int (pa_cons pe_int (pa_cons pe_int pa_nil))))))))) (C8.pe_c c__law_pick hr (by omega) rfl (pa_cons (pv 0) (pa_cons pe_int pa_nil))) (fun _ _ => rfl)))
      (pss_cons (ps_set (i := 5) sc__law_raw.nd rfl (Or.inl rfl) (C8.pe_c c__law_rising hr (by omega) rfl (pa_cons (pv 0) (pa_cons (pv 4) (pa_cons (pv 3) (pa_cons pe_int pa_nil))))))
      (pss_cons (ps_set (i := 6) sc__law_raw.nd rfl (Or.inl rfl) (pe_ix (r := rIxL K) ix_list (pe_lst (pa_cons pe_int (pa_cons pe_int (pa_cons pe_int (pa_cons pe_int (pa_cons pe_int (pa_cons (pv 4) (pa_cons pe_int (pa_cons pe_int pa_nil))))))))) (C8.pe_c c__law_pick hr (by omega) rfl (pa_cons (pv 0) (pa_cons pe_int pa_nil))) (fun _ _ => rfl)))
      (pss_cons (ps_set (i := 7) sc__law_raw.nd rfl (Or.inl rfl) (pe_op op_add (pe_op op_sub (pe_ix (r := rIxL K) ix_list (pv 5) (pe_un un_neg pe_int) (fun _ _ => rfl)) (pe_ix (r := rIxL K) ix_list (pv 5) pe_int (fun _ _ => rfl))) (pv 6)))
      (pss_cons (ps_if (PW.pt (pw_and (pt_val (pv 1)) (pw_and1 (pt_cmpR op_eq (pv 7) pe_int (nomark _))))) (pss_one (ps_set (i := 7) sc__law_raw.nd rfl (Or.inl rfl) pe_int)) pss_nil)
      (pss_one (ps_ret (pe_tup (pa_cons (pe_callTy (r := rTupOf K) call_tuple_of (by rfl) T.b_tuple (by decide +kernel) (pa_cons (pv 2) pa_nil)) (pa_cons (pe_callTy (r := rTupOf K) call_tuple_of (by rfl) T.b_tuple (by decide +kernel) (pa_cons (pv 5) pa_nil)) (pa_cons (pv 7) pa_nil)))))))))))))), ?_⟩
    -- the head
    refine sq1 ⟨_, rfl, (by show 8 ≤ sizeLine; decide), fun p1 hp1 => ?_⟩
    have e1 : Ex H (upd H p1 (.lst [.int 0, .int 1, .int 2, .int 0, .int 3, .int 1, .int 4, .int 2])) := Evl.Ex.new hp1
    have g1 : upd H p1 (.lst [.int 0, .int 1, .int 2, .int 0, .int 3, .int 1, .int 4, .int 2]) p1 = some (.lst (([0, 1, 2, 0, 3, 1, 4, 2] : List Int).map V.int)) := upd_same
    generalize upd H p1 (.lst [.int 0, .int 1, .int 2, .int 0, .int 3, .int 1, .int 4, .int 2]) = H1 at *
    have n1 : p1 ≠ a := fun z => by rw [z, hA] at hp1; cases hp1
    refine ⟨_, rfl, a, n0, s0, c0, 8, rfl, e1 _ _ hA, by omega, by omega, fun H2 d n2 s2 c2 b2 hA2 hd => ?_⟩
    obtain ⟨mh, hm, hm0, hm4⟩ := pick8 (ns := [0, 1, 2, 0, 3, 1, 4, 2]) (d := d) 0 4 (by decide) hd (by omega)
    refine ⟨p1, _, _, _, rfl, rfl, sq_l (b2 _ _ n1 g1), atI_int (i := d) rfl hd, ?_⟩
    rw [hm]
    refine ⟨a, mh, 3, 0, rfl, ⟨_, _, _, hA2⟩, by omega, by omega, by omega, fun H3 ph hs b3 hA3 nph hph hl hR => ?_⟩
    have B3 : But a H H3 := (But.of e1).trans (b2.trans b3)
    have npa : ph ≠ a := fun z => by rw [z, hA2] at nph; cases nph
    clear b2 b3 e1 g1 hA2
    obtain ⟨n3, s3, c3, hA3⟩ := hA3
    refine gn1 ?_
    try dsimp only
    -- its last
    have hk : ∀ R : VK, R (.int (lastOr 0 hs)) H3 → (tIf (tTest (tOp (rI0 fun i j => V.bl (decide (j < i))) (tCB (Evl.rLenS K) (tCons (tVar 2) tNil)) (tC (V.int 0)))) (tOp (rIxL K) (tVar 2) (tUn (rU fun i => V.int (-i)) (tC (V.int 1)))) (tC (V.int 0)))
        [some (.ref a), some (.bl true), some (.ref ph), none, none, none, none, none] H3 R := by
      intro R hR'
      refine ⟨_, rfl, ph, _, rfl, .inl (sq_l hph), _, _, rfl, rfl, _, rfl, ite2 (fun c => ?_) (fun c => ?_)⟩
      · have c' : 0 < hs.length := by have := of_decide_eq_true c; rw [List.length_map] at this; omega
        refine ⟨_, rfl, _, rfl, ph, _, _, _, rfl, rfl, sq_l hph, atI_neg (c := 0) rfl c', ?_⟩
        unfold lastOr at hR'
        rw [if_neg (by omega)] at hR'
        exact hR'
      · have c' : hs.length = 0 := by have h : ¬ (0 : Int) < (((hs.map V.int).length : Nat) : Int) := fun z => c (decide_eq_true z); rw [List.length_map] at h; omega
        unfold lastOr at hR'
        rw [if_pos c'] at hR'
        exact hR'
    refine sq1 (as1 (hk _ ?_))
    try dsimp only
    refine sq1 ⟨_, rfl, _, rfl, iteF ?_⟩
    unfold tNext
    try dsimp only
    -- the loop
    try refine sq1 ?_
    refine ⟨(by show 8 ≤ sizeLine; decide), fun p4 hp4 => ?_⟩
    have e4 : Ex H3 (upd H3 p4 (.lst [.int 1, .int 2, .int 1, .int 3, .int 2, .int 1, .int 4, .int 3])) := Evl.Ex.new hp4
    have g4 : upd H3 p4 (.lst [.int 1, .int 2, .int 1, .int 3, .int 2, .int 1, .int 4, .int 3]) p4 = some (.lst (([1, 2, 1, 3, 2, 1, 4, 3] : List Int).map V.int)) := upd_same
    generalize upd H3 p4 (.lst [.int 1, .int 2, .int 1, .int 3, .int 2, .int 1, .int 4, .int 3]) = H4 at *
    have n4 : p4 ≠ a := fun z => by rw [z, hA3] at hp4; cases hp4
    refine ⟨_, rfl, a, n3, s3, c3, 8, rfl, e4 _ _ hA3, by omega, by omega, fun H5 d5 n5 s5 c5 b5 hA5 hd5 => ?_⟩
    obtain ⟨ml, hml, hml1, hml4⟩ := pick8 (ns := [1, 2, 1, 3, 2, 1, 4, 3]) (d := d5) 1 4 (by decide) hd5 (by omega)
    refine ⟨p4, _, _, _, rfl, rfl, sq_l (b5 _ _ n4 g4), atI_int (i := d5) rfl hd5, ?_⟩
    rw [hml]
    refine gn1 ?_
    try dsimp only
    refine sq1 ⟨_, rfl, _, rfl, _, rfl, a, ml, 3, lastOr 0 hs, rfl, ⟨_, _, _, hA5⟩, by omega, by omega, by omega, fun H6 pl ls b6 hA6 npl hpl hll hRl => ?_⟩
    have hph6 := b6 _ _ npa (b5 _ _ npa (e4 _ _ hph))
    have B6 : But a H H6 := B3.trans ((But.of e4).trans (b5.trans b6))
    obtain ⟨n6, s6, c6, hA6⟩ := hA6
    have nla : pl ≠ a := fun z => by rw [z, hA5] at npl; cases npl
    clear b5 b6 e4 g4 B3 hA5 hA3 hp4
    refine gn1 ?_
    try dsimp only
    -- the rise
    try refine sq1 ?_
    refine ⟨_, rfl, (by show 8 ≤ sizeLine; decide), fun p7 hp7 => ?_⟩
    have e7 : Ex H6 (upd H6 p7 (.lst [.int 1, .int 2, .int 1, .int 0, .int 3, .int (ml : Int), .int 2, .int 1])) := Evl.Ex.new hp7
    have g7 : upd H6 p7 (.lst [.int 1, .int 2, .int 1, .int 0, .int 3, .int (ml : Int), .int 2, .int 1]) p7 = some (.lst (([1, 2, 1, 0, 3, (ml : Int), 2, 1] : List Int).map V.int)) := upd_same
    generalize upd H6 p7 (.lst [.int 1, .int 2, .int 1, .int 0, .int 3, .int (ml : Int), .int 2, .int 1]) = H7 at *
    have n7 : p7 ≠ a := fun z => by rw [z, hA6] at hp7; cases hp7
    refine ⟨_, rfl, a, n6, s6, c6, 8, rfl, e7 _ _ hA6, by omega, by omega, fun H8 d8 n8 s8 c8 b8 hA8 hd8 => ?_⟩
    obtain ⟨mm, hmm, hmm0, hmm4⟩ := pick8 (ns := [1, 2, 1, 0, 3, (ml : Int), 2, 1]) (d := d8) 0 4 (by simp; omega) hd8 (by omega)
    refine ⟨p7, _, _, _, rfl, rfl, sq_l (b8 _ _ n7 g7), atI_int (i := d8) rfl hd8, ?_⟩
    rw [hmm]
    have hph8 := b8 _ _ npa (e7 _ _ hph6)
    have hpl8 := b8 _ _ nla (e7 _ _ hpl)
    have B8 : But a H H8 := B6.trans ((But.of e7).trans b8)
    have ll1 : 0 < ls.length := by omega
    refine gn1 ?_
    try dsimp only
    try refine sq1 ?_
    refine ⟨_, rfl, _, rfl, pl, _, _, _, rfl, rfl, sq_l hpl8, atI_neg (c := 0) rfl ll1, _, rfl, pl, _, _, _, rfl, rfl, sq_l hpl8, atI_int (i := 0) rfl ll1, _, _, rfl, rfl, _, rfl, _, _, rfl, rfl, ?_⟩
    try dsimp only
    have h0l := hRl.up (Nat.zero_le (ls.length - 1)) (show ls.length - 1 < ls.length by omega)
    rw [Nat.sub_zero]
    have hdl := h0l.2
    rw [show ((3 : Nat) : Int) - 1 = 2 from rfl] at hdl
    have fin : ∀ r : Int, ls.getD (ls.length - 1) 0 - ls.getD 0 0 ≤ r → 0 ≤ r → r ≤ 10 →
        (tRet (tTup (tCons (tCB (rTupOf K) (tCons (tVar 2) tNil)) (tCons (tCB (rTupOf K) (tCons (tVar 5) tNil)) (tCons (tVar 7) tNil))))) { nx := fun _ H' => Q .non H', rt := Q }
          [some (.ref a), some (.bl true), some (.ref ph), some (.int (lastOr 0 hs)), some (.int (ml : Int)), some (.ref pl), some (.int (mm : Int)), some (.int r)] H8 := by
      intro r r1 r2 r3
      refine rt1 ⟨_, rfl, ph, _, rfl, .inl ⟨sq_l hph8, fun t1 ht1 => ?_⟩⟩
      have f1 : Ex H8 (upd H8 t1 (.tup (hs.map V.int))) := Evl.Ex.new ht1
      have q1 : upd H8 t1 (.tup (hs.map V.int)) t1 = some (.tup (hs.map V.int)) := upd_same
      generalize upd H8 t1 (.tup (hs.map V.int)) = H9 at *
      refine ⟨_, rfl, pl, _, rfl, .inl ⟨sq_l (f1 _ _ hpl8), fun t2 ht2 => ?_⟩⟩
      have f2 : Ex H9 (upd H9 t2 (.tup (ls.map V.int))) := Evl.Ex.new ht2
      have q2 : upd H9 t2 (.tup (ls.map V.int)) t2 = some (.tup (ls.map V.int)) := upd_same
      generalize upd H9 t2 (.tup (ls.map V.int)) = H10 at *
      refine ⟨_, rfl, (by show 3 ≤ sizeLine; decide), fun t3 ht3 => ?_⟩
      have f3 : Ex H10 (upd H10 t3 (.tup [.ref t1, .ref t2, .int r])) := Evl.Ex.new ht3
      refine q _ (.ref t3) (hs, ls, r) (B8.trans (.of (f1.trans (f2.trans f3)))) ⟨n8, s8, c8, f3 _ _ (f2 _ _ (f1 _ _ hA8))⟩ (tp_raw (sq_t upd_same) (tp_ints (sq_t (f3 _ _ (f2 _ _ q1)))) (tp_ints (sq_t (f3 _ _ q2)))) ?_
      exact steady_of hR hRl (by omega) (by omega) (by omega) r1 r3 r2
    refine gn1 ?_
    try dsimp only
    try refine sq1 ?_
    refine ⟨_, rfl, true, rfl, if_t rfl ⟨_, rfl, rfl, _, rfl, ?_⟩⟩
    rw [dInt]
    refine ite2 (fun c => ?_) (fun c => ?_)
    · have c' := of_decide_eq_true c
      exact fin 1 (by omega) (by omega) (by omega)
    · exact fin _ (by omega) (by omega) (by omega)
end
end K28
end
section
set_option Elab.async false
set_option linter.all false
set_option maxRecDepth 100000
set_option maxHeartbeats 4000000
namespace K28
open PySem PySem.Spec PyProof.Rows L2
open Evl (Ex)
section
variable {P : Program} {w : World} {K : PySem.W.Frag} {mg : Str → Option Value} {base : Heap} {CT CM CB CF : Addr}
def spAt (K : PySem.W.Frag) : Sp := fun vs H Q _ => ∃ (v : V) (x : Raw) (n : Nat), vs = [v, .int ((n : Int) + 1)] ∧ Tp K H v (rawD x) ∧ Steady x ∧ Q (.int (vb x n)) H
abbrev s__law_at : Stmt := top 76
theorem sc__law_at : FnScope ["_law_raw_here", "_law_place", "_law_rest"] ["_law_raw_here", "_law_place"] (defScope s__law_at) := ⟨rfl, rfl, rfl, by decide +kernel, rfl, by decide +kernel, by decide +kernel⟩
theorem ok_law_at {f : Addr} {fd : FuncData} (F : Fun K "_law_at" "_law_at" s__law_at f fd) (T : Txt K mg CT CM) : FnOk P w K mg base CX0 1 f fd ["_law_raw_here", "_law_place"] (spAt K) := by
  refine F.ok sc__law_at (fun vs H Q E h => ?_) (fun cdv A outer s H vs Q E hr h => ?_)
  · obtain ⟨_, _, _, rfl, _⟩ := h
    rfl
  · obtain ⟨v, ⟨h, l, r⟩, n, rfl, ht, sx, q⟩ := h
    obtain ⟨a, vh, vl, rfl, hA, th, tl⟩ := ht.raw
    obtain ⟨ah, rfl, hh⟩ := th.ints
    obtain ⟨al, rfl, hl⟩ := tl.ints
    dsimp only at hA hh hl
    refine ⟨_, (pss_cons (ps_if (pt_cmpR op_isN (pv 1) pe_non (nomark _)) (pss_one ps_never) pss_nil)
      (pss_cons (ps_if (pt_cmpR op_eq (pv 1) pe_int (nomark _)) (pss_one (ps_ret pe_int)) pss_nil)
      (pss_cons (ps_if (pt_cmpR op_le (pv 1) (pe_callB (r := Evl.rLenS K) call_len_seq (by rfl) T.b_len PySem.boot_len (pa_cons (pe_ix (r := rIxT K) ix_tup (pv 0) pe_int (fun _ _ => rfl)) pa_nil)) (nomark _)) (pss_one (ps_ret (pe_ix (r := rIxT K) ix_tup (pe_ix (r := rIxT K) ix_tup (pv 0) pe_int (fun _ _ => rfl)) (pe_op op_sub (pv 1) pe_int) (fun _ _ => rfl)))) pss_nil)
      (pss_cons (ps_if (pt_cmpR op_eq (pe_callB (r := Evl.rLenS K) call_len_seq (by rfl) T.b_len PySem.boot_len (pa_cons (pe_ix (r := rIxT K) ix_tup (pv 0) pe_int (fun _ _ => rfl)) pa_nil)) pe_int (nomark _)) (pss_one (ps_ret pe_non)) pss_nil)
      (pss_cons (ps_set (i := 2) sc__law_at.nd rfl (Or.inl rfl) (pe_op op_sub (pe_op op_sub (pv 1) (pe_callB (r := Evl.rLenS K) call_len_seq (by rfl) T.b_len PySem.boot_len (pa_cons (pe_ix (r := rIxT K) ix_tup (pv 0) pe_int (fun _ _ => rfl)) pa_nil))) pe_int))
      (pss_one (ps_ret (pe_op op_add (pe_ix (r := rIxT K) ix_tup (pe_ix (r := rIxT K) ix_tup (pv 0) pe_int (fun _ _ => rfl)) (pe_op op_mod (pv 2) (pe_callB (r := Evl.rLenS K) call_len_seq (by rfl) T.b_len PySem.boot_len (pa_cons (pe_ix (r := rIxT K) ix_tup (pv 0) pe_int (fun _ _ => rfl)) pa_nil))) (fun _ _ => rfl)) (pe_op op_mul (pe_ix (r := rIxT K) ix_tup (pv 0) pe_int (fun _ _ => rfl)) (pe_op op_fdiv (pv 2) (pe_callB (r := Evl.rLenS K) call_len_seq (by rfl) T.b_len PySem.boot_len (pa_cons (pe_ix (r := rIxT K) ix_tup (pv 0) pe_int (fun _ _ => rfl)) pa_nil)))))))))))), ?_⟩
    have l1 : 0 < l.length := sx.l1
    refine sq1 ⟨_, rfl, rfl, _, rfl, if_f (decide_eq_false fun z => by cases z) ?_⟩
    unfold tNext
    try dsimp only
    try refine sq1 ?_
    refine ⟨_, rfl, rfl, _, rfl, if_f (by rw [dInt]; exact decide_eq_false (by omega)) ?_⟩
    try dsimp only
    try refine sq1 ?_
    refine ⟨_, rfl, _, rfl, a, _, _, _, rfl, rfl, hA, rfl, ah, _, rfl, .inr hh, _, _, rfl, rfl, _, rfl, ite2 (fun c => ?_) (fun c => ?_)⟩
    · have c' : n < h.length := by have := of_decide_eq_true c; rw [List.length_map] at this; omega
      refine rt1 ⟨_, rfl, a, _, _, _, rfl, rfl, hA, rfl, _, rfl, _, _, rfl, rfl, ah, _, _, _, rfl, rfl, hh, atI_int (i := n) (by omega) c', ?_⟩
      have : vb (h, l, r) n = h.getD n 0 := val_lt c'
      rw [← this]
      exact q
    · have c' : ¬ n < h.length := fun z => c (decide_eq_true (by rw [List.length_map]; omega))
      try dsimp only
      try refine sq1 ?_
      refine ⟨_, rfl, a, _, _, _, rfl, rfl, hA, rfl, al, _, rfl, .inr hl, rfl, _, rfl, if_f (by rw [dInt]; exact decide_eq_false (by rw [List.length_map]; omega)) ?_⟩
      try dsimp only
      try refine sq1 ?_
      refine ⟨_, rfl, _, rfl, a, _, _, _, rfl, rfl, hA, rfl, ah, _, rfl, .inr hh, _, _, rfl, rfl, _, _, rfl, rfl, ?_⟩
      dsimp only
      rw [show (n : Int) + 1 - (((h.map V.int).length : Nat) : Int) - 1 = ((n - h.length : Nat) : Int) by rw [List.length_map]; omega]
      obtain ⟨t, rfl⟩ := Nat.exists_eq_add_of_le (show h.length ≤ n by omega)
      rw [Nat.add_sub_cancel_left]
      have r10 := sx.r10
      have r0 := sx.good.r0
      have l4 := sx.l4
      dsimp only at r10 r0 l4
      refine gn1 ?_
      try dsimp only
      refine rt1 ⟨_, rfl, a, _, _, _, rfl, rfl, hA, rfl, _, rfl, _, rfl, a, _, _, _, rfl, rfl, hA, rfl, al, _, rfl, .inr hl, _, _, rfl, rfl, (by rw [List.length_map]; omega), al, _, _, _, rfl, rfl, hl, atI_int (i := t % l.length) (by rw [List.length_map]; rfl) (Nat.mod_lt _ l1), ?_⟩
      refine ⟨_, rfl, a, _, _, _, rfl, rfl, hA, rfl, _, rfl, _, rfl, a, _, _, _, rfl, rfl, hA, rfl, al, _, rfl, .inr hl, _, _, rfl, rfl, ⟨(by rw [List.length_map]; omega), (by rw [List.length_map]; omega)⟩, _, _, rfl, rfl, .inl (by omega), _, _, rfl, rfl, ?_⟩
      dsimp only
      have e : vb (h, l, r) (h.length + t) = l.getD (t % l.length) 0 + r * ((t / l.length : Nat) : Int) := val_ge t
      rw [e] at q
      rw [List.length_map]
      exact q
def spCnts (K : PySem.W.Frag) : Sp := fun vs H Q _ => ∃ (a : Addr) (ns : List Int), vs = [.ref a] ∧ H a = some (.lst (ns.map V.int)) ∧ ns.length ≤ 1000 ∧ ∀ H' p, Ex H H' → H' p = some (.lst (ns.map V.int)) → Q (.ref p) H'
abbrev s__law_counts : Stmt := top 78
theorem sc__law_counts : FnScope ["_law_values", "_law_told", "_law_value"] ["_law_values"] (defScope s__law_counts) := ⟨rfl, rfl, rfl, by decide +kernel, rfl, by decide +kernel, by decide +kernel⟩
theorem ok_law_counts {f : Addr} {fd : FuncData} (F : Fun K "_law_counts" "_law_counts" s__law_counts f fd) (T : Txt K mg CT CM) : FnOk P w K mg base CX0 1 f fd ["_law_values"] (spCnts K) := by
  refine F.ok sc__law_counts (fun vs H Q E h => ?_) (fun cdv A outer s H vs Q E hr h => ?_)
  · obtain ⟨_, _, rfl, _⟩ := h
    rfl
  · obtain ⟨a, ns, rfl, hA, hz, q⟩ := h
    refine ⟨_, (pss_cons (ps_set (i := 1) sc__law_counts.nd rfl (Or.inl rfl) (pe_lst pa_nil))
      (pss_cons (ps_for PassesOwn.never rfl (pi_list (pv 0)) (pg_name (i := 2) sc__law_counts.nd rfl (Or.inl rfl)) (pss_cons (ps_if (pt_cmpR op_isN (pv 2) pe_non (nomark _)) (pss_one (ps_ret (pv 1))) pss_nil)
      (pss_one (ps_expr (pe_bm PySem.F.plainAttrs_list PySem.F.slot_list_append PySem.F.type_list_append mt_append (pv 1) (pa_cons (pv 2) pa_nil))))))
      (pss_one (ps_ret (pv 1))))), ?_⟩
    refine sq1 ⟨Nat.zero_le _, fun p hp => ?_⟩
    have e1 : Ex H (upd H p (.lst [])) := Evl.Ex.new hp
    have p1 : upd H p (.lst []) p = some (.lst (([] : List Int).map V.int)) := upd_same
    generalize upd H p (.lst []) = H1 at *
    refine gn1 ?_
    try dsimp only
    refine sq1 (fr_fb ?_)
    refine ⟨_, rfl, a, rfl, ⟨_, sq_l (e1 _ _ hA)⟩, fb_go wk_list (fun i σ' H' => ∃ x : Option V, σ' = [some (.ref a), some (.ref p), x] ∧ Ex H H' ∧ H' p = some (.lst ((ns.take i).map V.int))) ⟨none, rfl, e1, p1⟩ (fun i σ' H' _ ⟨_, _, e, _⟩ => sq_l (e _ _ hA)) ?_ ?_⟩
    · rintro i x σ' H' hi hx ⟨x0, rfl, e, hP⟩
      obtain ⟨z, hz', rfl⟩ := get_map hx
      refine gn1 ?_
      try dsimp only
      have hi' : i < ns.length := by rw [List.length_map] at hi; exact hi
      refine sq1 ⟨_, rfl, rfl, _, rfl, if_f (decide_eq_false fun z => by cases z) ?_⟩
      unfold tNext
      try dsimp only
      refine ⟨_, rfl, .inl ⟨rfl, _, sq_l hP⟩, _, rfl, p, _, _, rfl, rfl, hP, Evl.sz_lt (by rw [List.length_map, List.length_take]; omega), ?_⟩
      refine ⟨_, rfl, e.mut hp, ?_⟩
      rw [upd_same, List.take_succ, hz', List.map_append]
      rfl
    · rintro σ' H' ⟨x0, rfl, e, hP⟩
      rw [List.length_map, List.take_length] at hP
      exact ⟨_, rfl, q H' p e hP⟩
def spEnded (K : PySem.W.Frag) : Sp := fun vs H Q _ => ∃ (y v : V) (x : Raw) (u : Nat), vs = [y, v, .int (u : Int)] ∧ Tp K H v (rawD x) ∧ Steady x ∧ u ≤ 6 ∧ ∀ (H' : Hp) (v' : V) (x' : Raw), Ex H H' → Tp K H' v' (rawD x') → Ended u x' → Q v' H'
theorem ended_of {x : Raw} {u : Nat} (s : Steady x) (hu : u ≤ 6) : Ended u ((List.range u).map (vb x), [], 0) := by
  obtain ⟨m0, mu⟩ := good_mono s.good s.l1
  refine ⟨rfl, rfl, by simp, cnt_of fun i hi => ?_, ris_of fun i hi => ?_, fun i => ?_⟩
  · simp only [List.length_map, List.length_range] at hi
    show 0 ≤ ((List.range u).map (vb x)).getD i 0
    rw [getD_mapR hi]
    exact Int.le_trans m0 (mono_up mu (Nat.zero_le i))
  · simp only [List.length_map, List.length_range] at hi
    show ((List.range u).map (vb x)).getD i 0 ≤ ((List.range u).map (vb x)).getD (i + 1) 0
    rw [getD_mapR (by omega), getD_mapR hi]
    exact mu i
  · show ((List.range u).map (vb x)).getD i 0 ≤ 100
    by_cases c : i < u
    · rw [getD_mapR c]
      have := s.bd i
      omega
    · rw [List.getD_eq_getElem?_getD, List.getElem?_eq_none (by simp; omega)]
      decide
abbrev s__law_ended : Stmt := top 83
theorem sc__law_ended : FnScope ["_law_source_here", "_law_raw_here", "_law_upto", "_law_values", "_law_n"] ["_law_source_here", "_law_raw_here", "_law_upto"] (defScope s__law_ended) := ⟨rfl, rfl, rfl, by decide +kernel, rfl, by decide +kernel, by decide +kernel⟩
theorem ok_law_ended {f : Addr} {fd : FuncData} (F : Fun K "_law_ended" "_law_ended" s__law_ended f fd) (T : Txt K mg CT CM) (c__law_at : C8.Cal P w K mg base 1 "_law_at" (spAt K) []) (c__law_counts : C8.Cal P w K mg base 1 "_law_counts" (spCnts K) []) : FnOk P w K mg base CX0 3 f fd ["_law_source_here", "_law_raw_here", "_law_upto"] (spEnded K) := by
  refine F.ok sc__law_ended (fun vs H Q E h => ?_) (fun cdv A outer s H vs Q E hr h => ?_)
  · obtain ⟨_, _, _, _, rfl, _⟩ := h
    rfl
  · obtain ⟨y, v, x, u, rfl, ht, sx, hu, q⟩ := h
    refine ⟨_, (pss_cons (ps_setLc (i := 3) (own := [("_law_n", 4)]) (g := gName 4) (tt := tYes) rfl sc__law_ended.nd rfl rfl (sw_true rfl rfl rfl (by decide +kernel)) (pi_range1 rfl T.b_range (pa_cons (pv 2) pa_nil)) (blkOk_by (own := [("_law_n", 4)]) (N := ["_law_source_here", "_law_raw_here", "_law_upto", "_law_values", "_law_n"]) (sc := defScope s__law_ended) (by decide +kernel)) (fun _ _ _ _ _ => pg_name (i := 4) sc__law_ended.nd rfl (Or.inl rfl)) (fun _ _ _ _ _ => pts_nil) (fun _ _ _ _ _ => (C8.pe_c c__law_at hr (by omega) rfl (pa_cons (pv 1) (pa_cons (pe_op op_add (pv 4) pe_int) pa_nil)))))
      (pss_one (ps_ret (pe_tup (pa_cons (pe_callTy (r := rTupOf K) call_tuple_of (by rfl) T.b_tuple (by decide +kernel) (pa_cons (C8.pe_c c__law_counts hr (by omega) rfl (pa_cons (pv 3) pa_nil)) pa_nil)) (pa_cons (pe_tup pa_nil) (pa_cons pe_int pa_nil))))))), ?_⟩
    refine sq1 (as1 (lc_lb (j := 4) ?_))
    refine ⟨_, rfl, _, rfl, by omega, by omega, lc_map wk_range (fun (i : Nat) y H => y = .int (vb x i)) (fun _ _ _ _ => True.intro) (fun _ _ _ _ _ r => r) True.intro (by omega) (fun i z H' Q' hi hz e' kk => ?_) ?_⟩
    · have ez : z = .int ((i : Nat) : Int) := by rw [hz]; simp
      subst ez
      exact ⟨_, rfl, _, rfl, _, _, rfl, rfl, v, x, i, rfl, ht.ex e', sx, kk _ _ Ex.r rfl⟩
    · intro D ys H1 hl hD e1 hD1 hr1
      have ey : ys = ((List.range u).map (vb x)).map V.int := by
        rw [List.map_map]
        refine map_of (f := V.int ∘ vb x) (by rw [hl, List.length_range]; omega) fun i y hy => ⟨i, ?_, hr1 i y hy⟩
        have := (List.getElem?_eq_some_iff.mp hy).1
        exact List.getElem?_range (by omega)
      subst ey
      try dsimp only
      refine rt1 ⟨_, rfl, D, _, rfl, hD1, by rw [List.length_map, List.length_range]; omega, fun H2 p e2 hp2 => ?_⟩
      refine ⟨p, _, rfl, .inl ⟨sq_l hp2, fun t1 ht1 => ?_⟩⟩
      have f1 : Ex H2 (upd H2 t1 (.tup (((List.range u).map (vb x)).map V.int))) := Evl.Ex.new ht1
      have q1 : upd H2 t1 (.tup (((List.range u).map (vb x)).map V.int)) t1 = some (.tup (((List.range u).map (vb x)).map V.int)) := upd_same
      generalize upd H2 t1 (.tup (((List.range u).map (vb x)).map V.int)) = H3 at *
      refine ⟨Nat.zero_le _, fun t2 ht2 => ?_⟩
      have f2 : Ex H3 (upd H3 t2 (.tup [])) := Evl.Ex.new ht2
      have q2 : upd H3 t2 (.tup []) t2 = some (.tup (([] : List Int).map V.int)) := upd_same
      generalize upd H3 t2 (.tup []) = H4 at *
      refine ⟨(by show 3 ≤ sizeLine; decide), fun t3 ht3 => ?_⟩
      have f3 : Ex H4 (upd H4 t3 (.tup [.ref t1, .ref t2, .int 0])) := Evl.Ex.new ht3
      exact q _ (.ref t3) ((List.range u).map (vb x), [], 0) (e1.trans (e2.trans (f1.trans (f2.trans f3)))) (tp_raw (sq_t upd_same) (tp_ints (sq_t (f3 _ _ (f2 _ _ q1)))) (tp_ints (sq_t (f3 _ _ q2)))) (ended_of sx hu)
/-- what the law's tables are -/
def LR (xs : List Raw) : Prop := 1 ≤ xs.length ∧ xs.length ≤ 3 ∧ ((∀ x ∈ xs, Steady x) ∨ ∃ u, u ≤ 6 ∧ ∀ x ∈ xs, Ended u x)
def RawsAt (K : PySem.W.Frag) (H : Hp) (vs : List V) (xs : List Raw) : Prop := vs.length = xs.length ∧ ∀ (i : Nat) v x, vs[i]? = some v → xs[i]? = some x → Tp K H v (rawD x)
theorem RawsAt.kp {K : PySem.W.Frag} {H H' : Hp} {vs : List V} {xs : List Raw} (e : Kp H H') (h : RawsAt K H vs xs) : RawsAt K H' vs xs := ⟨h.1, fun i v x a b => (h.2 i v x a b).kp e⟩
theorem RawsAt.snoc {K : PySem.W.Frag} {H : Hp} {vs : List V} {xs : List Raw} {v : V} {x : Raw} (h : RawsAt K H vs xs) (t : Tp K H v (rawD x)) : RawsAt K H (vs ++ [v]) (xs ++ [x]) := by
  refine ⟨by rw [List.length_append, List.length_append, h.1]; rfl, fun i u z hu hz => ?_⟩
  by_cases c : i < vs.length
  · rw [List.getElem?_append_left c] at hu
    rw [List.getElem?_append_left (by rw [← h.1]; exact c)] at hz
    exact h.2 i u z hu hz
  · rw [List.getElem?_append_right (by omega)] at hu
    rw [List.getElem?_append_right (by rw [← h.1]; omega), ← h.1] at hz
    cases e : i - vs.length with
    | zero =>
      rw [e] at hu hz
      rw [← Option.some.inj hu, ← Option.some.inj hz]
      exact t
    | succ m =>
      rw [e] at hu
      simp at hu
theorem raws_of {K : PySem.W.Frag} {H : Hp} {Pp : Raw → Prop} : ∀ {ys : List V}, (∀ (i : Nat) y, ys[i]? = some y → ∃ x, Tp K H y (rawD x) ∧ Pp x) → ∃ xs, RawsAt K H ys xs ∧ ∀ x ∈ xs, Pp x
  | [], _ => ⟨[], ⟨rfl, fun i v x h => by simp at h⟩, fun x h => by simp at h⟩
  | y :: ys, h => by
    obtain ⟨x, hx, px⟩ := h 0 y rfl
    obtain ⟨xs, ⟨hl, hr⟩, hp⟩ := raws_of (K := K) (H := H) (Pp := Pp) (ys := ys) fun i z hz => h (i + 1) z hz
    refine ⟨x :: xs, ⟨by rw [List.length_cons, List.length_cons, hl], fun i v z hv hz => ?_⟩, fun z hz => ?_⟩
    · cases i with
      | zero =>
        rw [← Option.some.inj hv, ← Option.some.inj hz]
        exact hx
      | succ i => exact hr i v z hv hz
    · rcases List.mem_cons.mp hz with rfl | hz
      · exact px
      · exact hp z hz
def spTabs (K : PySem.W.Frag) : Sp := fun vs H Q _ => ∃ a, vs = [.ref a] ∧ SrcAt H a ∧ ∀ (H' : Hp) (p : Addr) (us : List V) (xs : List Raw), But a H H' → SrcAt H' a → H p = none → H' p = some (.lst us) → RawsAt K H' us xs → LR xs → Q (.ref p) H'
theorem steady_one {x : Raw} (s : Steady x) : Steady (x.1, [x.2.1.getD 0 0], 0) := by
  have g := s.good
  have l1 := s.l1
  refine ⟨⟨g.cntH, g.risH, cnt_of fun i hi => ?_, rfl, fun hn _ => ?_, Int.le_refl 0, (fun z => by cases z), fun _ => ?_⟩, Nat.le_refl 1, by show 1 ≤ 4; decide, s.h4, fun n => ?_, by show (0 : Int) ≤ 10; decide⟩
  · have e : i = 0 := by
      have : i < 1 := hi
      omega
    subst e
    exact cnt_get g.cntL l1
  · exact g.join hn fun z => by rw [z] at l1; simp at l1
  · show x.2.1.getD 0 0 ≤ x.2.1.getD 0 0 + 0
    omega
  · show val x.1 [x.2.1.getD 0 0] 0 n ≤ 16 + 10 * (n : Int)
    by_cases c : n < x.1.length
    · have := s.bd n
      unfold vb at this
      rw [val_lt c] at this ⊢
      exact this
    · obtain ⟨t, rfl⟩ := Nat.exists_eq_add_of_le (show x.1.length ≤ n by omega)
      rw [val_ge]
      have := s.bd (x.1.length + 0)
      unfold vb at this
      rw [val_ge, Nat.zero_mod, Nat.zero_div] at this
      have e : ([x.2.1.getD 0 0] : List Int).getD (t % 1) 0 = x.2.1.getD 0 0 := by rw [Nat.mod_one]; rfl
      show ([x.2.1.getD 0 0] : List Int).getD (t % 1) 0 + 0 * _ ≤ _
      rw [e]
      simp only [Int.natCast_zero, Int.mul_zero, Int.add_zero] at this
      omega
abbrev s__law_tables : Stmt := top 84
theorem sc__law_tables : FnScope ["_law_source_here", "_law_many", "_law_told", "_law_k", "_law_raw_here", "_law_upto"] ["_law_source_here"] (defScope s__law_tables) := ⟨rfl, rfl, rfl, by decide +kernel, rfl, by decide +kernel, by decide +kernel⟩
theorem ok_law_tables {f : Addr} {fd : FuncData} (F : Fun K "_law_tables" "_law_tables" s__law_tables f fd) (T : Txt K mg CT CM) (c__law_pick : C8.Cal P w K mg base 1 "_law_pick" spPick []) (c__law_raw : C8.Cal P w K mg base 3 "_law_raw" (spRaw K) []) (c__law_ended : C8.Cal P w K mg base 3 "_law_ended" (spEnded K) []) : FnOk P w K mg base CX0 4 f fd ["_law_source_here"] (spTabs K) := by
  refine F.ok sc__law_tables (fun vs H Q E h => ?_) (fun cdv A outer s H vs Q E hr h => ?_)
  · obtain ⟨_, rfl, _⟩ := h
    rfl
  · obtain ⟨a, rfl, ⟨n0, s0, c0, hA⟩, q⟩ := h
    refine ⟨_, (pss_cons (ps_set (i := 1) sc__law_tables.nd rfl (Or.inl rfl) (pe_op op_add pe_int (C8.pe_c c__law_pick hr (by omega) rfl (pa_cons (pv 0) (pa_cons pe_int pa_nil)))))
      (pss_cons (ps_set (i := 2) sc__law_tables.nd rfl (Or.inl rfl) (pe_lst pa_nil))
      (pss_cons (ps_for PassesOwn.never rfl (pi_range1 rfl T.b_range (pa_cons (pv 1) pa_nil)) (pg_name (i := 3) sc__law_tables.nd rfl (Or.inl rfl)) (pss_cons (ps_set (i := 4) sc__law_tables.nd rfl (Or.inl rfl) (C8.pe_c c__law_raw hr (by omega) rfl (pa_cons (pv 0) (pa_cons pe_bl pa_nil))))
      (pss_cons (ps_if (pt_cmpR op_eq (C8.pe_c c__law_pick hr (by omega) rfl (pa_cons (pv 0) (pa_cons pe_int pa_nil))) pe_int (nomark _)) (pss_one (ps_set (i := 4) sc__law_tables.nd rfl (Or.inl rfl) (pe_tup (pa_cons (pe_ix (r := rIxT K) ix_tup (pv 4) pe_int (fun _ _ => rfl)) (pa_cons (pe_tup (pa_cons (pe_ix (r := rIxT K) ix_tup (pe_ix (r := rIxT K) ix_tup (pv 4) pe_int (fun _ _ => rfl)) pe_int (fun _ _ => rfl)) pa_nil)) (pa_cons pe_int pa_nil)))))) pss_nil)
      (pss_one (ps_expr (pe_bm PySem.F.plainAttrs_list PySem.F.slot_list_append PySem.F.type_list_append mt_append (pv 2) (pa_cons (pv 4) pa_nil)))))))
      (pss_cons (ps_if (pt_cmpR op_eq (C8.pe_c c__law_pick hr (by omega) rfl (pa_cons (pv 0) (pa_cons pe_int pa_nil))) pe_int (nomark _)) (pss_cons (ps_set (i := 5) sc__law_tables.nd rfl (Or.inr rfl) (C8.pe_c c__law_pick hr (by omega) rfl (pa_cons (pv 0) (pa_cons pe_int pa_nil))))
      (pss_one (ps_setLc (i := 2) (own := [("_law_raw_here", 4)]) (g := gName 4) (tt := tYes) rfl sc__law_tables.nd rfl rfl (sw_true rfl rfl rfl (by decide +kernel)) (pi_list (pv 2)) (blkOk_by (own := [("_law_raw_here", 4)]) (N := ["_law_source_here", "_law_many", "_law_told", "_law_k", "_law_raw_here", "_law_upto"]) (sc := defScope s__law_tables) (by decide +kernel)) (fun _ _ _ _ _ => pg_name (i := 4) sc__law_tables.nd rfl (Or.inl rfl)) (fun _ _ _ _ _ => pts_nil) (fun _ _ _ _ _ => (C8.pe_c c__law_ended hr (by omega) rfl (pa_cons (pv 0) (pa_cons (pv 4) (pa_cons (pv 5) pa_nil)))))))) pss_nil)
      (pss_one (ps_ret (pv 2))))))), ?_⟩
    refine sq1 ⟨_, rfl, a, n0, s0, c0, 3, rfl, hA, by omega, by omega, fun H1 d n1 s1 c1 b1 hA1 hd => ⟨_, _, rfl, rfl, ?_⟩⟩
    try dsimp only
    rw [show (1 : Int) + (d : Int) = ((d + 1 : Nat) : Int) by omega]
    refine gn1 ?_
    try dsimp only
    try refine sq1 ?_
    refine ⟨Nat.zero_le _, fun p hp => ?_⟩
    have e1 : Ex H1 (upd H1 p (.lst [])) := Evl.Ex.new hp
    have p1 : upd H1 p (.lst []) p = some (.lst []) := upd_same
    generalize upd H1 p (.lst []) = H2 at *
    have npa : p ≠ a := fun z => by rw [z, hA1] at hp; cases hp
    have hp0 : H p = none := by
      cases e : H p with
      | none => rfl
      | some o => rw [b1 p o npa e] at hp; cases hp
    refine gn1 ?_
    try dsimp only
    refine sq1 (fr_fb ?_)
    refine ⟨_, rfl, _, rfl, by omega, by omega, ?_⟩
    refine fb_go wk_range (fun i σ' H' => ∃ (us : List V) (xs : List Raw) (x3 x4 : Option V), σ' = [some (.ref a), some (.int ((d + 1 : Nat) : Int)), some (.ref p), x3, x4, none] ∧ But a H H' ∧ SrcAt H' a ∧ H' p = some (.lst us) ∧ RawsAt K H' us xs ∧ xs.length = i ∧ ∀ x ∈ xs, Steady x)
      ⟨[], [], none, none, rfl, b1.trans (.of e1), ⟨n1, s1, c1, e1 _ _ hA1⟩, p1, ⟨rfl, fun i v x h => by simp at h⟩, rfl, fun x h => by simp at h⟩ (fun i σ' H' _ _ => True.intro) ?_ ?_
    · rintro i x σ' H3 hi hx ⟨us, xs, x3, x4, rfl, b3, ⟨n3, s3, c3, hA3⟩, hp3, hR, hl, hS⟩
      refine gn1 ?_
      try dsimp only
      refine sq1 ⟨_, rfl, a, rfl, ⟨n3, s3, c3, hA3⟩, fun H4 v y b4 ⟨n4, s4, c4, hA4⟩ ty sy => ?_⟩
      have hp4 := b4 p _ npa hp3
      have hR4 := hR.kp (b4.kp hA3)
      refine gn1 ?_
      try dsimp only
      try refine sq1 ?_
      refine ⟨_, rfl, a, n4, s4, c4, 6, rfl, hA4, by omega, by omega, fun H5 d5 n5 s5 c5 b5 hA5 hd5 => ⟨rfl, _, rfl, ?_⟩⟩
      have hp5 := b5 p _ npa hp4
      have hR5 := hR4.kp (b5.kp hA4)
      have ty5 := ty.kp (b5.kp hA4)
      have B5 := b3.trans (b4.trans b5)
      clear b4 b5 hR4 hR hp4 hp3 b3
      have fin : ∀ {H' : Hp} {v : V} {y : Raw} {x3 : Option V}, Ex H5 H' → Tp K H' v (rawD y) → Steady y → (tDrop (tBM K "list" rAppend (tVar 2) (tCons (tVar 4) tNil)))
          { nx := fun σ' H' => ∃ (us : List V) (xs : List Raw) (x3 x4 : Option V), σ' = [some (.ref a), some (.int ((d + 1 : Nat) : Int)), some (.ref p), x3, x4, none] ∧ But a H H' ∧ SrcAt H' a ∧ H' p = some (.lst us) ∧ RawsAt K H' us xs ∧ xs.length = i + 1 ∧ ∀ x ∈ xs, Steady x, rt := Q }
          [some (.ref a), some (.int ((d + 1 : Nat) : Int)), some (.ref p), x3, some v, none] H' := by
        intro H' v y x3 e ht hs
        have hp' := e _ _ hp5
        have hul : us.length ≤ 3 := by rw [hR5.1, hl]; omega
        refine ⟨_, rfl, .inl ⟨rfl, _, sq_l hp'⟩, _, rfl, p, _, _, rfl, rfl, hp', Evl.sz_lt (by omega), ?_⟩
        refine ⟨us ++ [v], xs ++ [y], _, _, rfl, (B5.trans (.of e)).mut hp0, ⟨n5, s5, c5, by rw [upd_ne npa.symm]; exact e _ _ hA5⟩, upd_same, ((hR5.kp (.of e)).kp (Kp.lst hp')).snoc (ht.kp (Kp.lst hp')), by rw [List.length_append, hl]; rfl, fun z hz => ?_⟩
        rcases List.mem_append.mp hz with hz | hz
        · exact hS z hz
        · rw [List.mem_singleton.mp hz]; exact hs
      rw [dInt]
      refine ite2 (fun c => ?_) (fun c => ?_)
      · obtain ⟨at_, vh, vl, rfl, qA, th, tl⟩ := ty5.raw
        obtain ⟨al, rfl, ql⟩ := tl.ints
        refine ⟨_, rfl, at_, _, _, _, rfl, rfl, qA, rfl, _, rfl, at_, _, _, _, rfl, rfl, qA, rfl, al, _, _, _, rfl, rfl, ql, atI_int (i := 0) rfl sy.l1, (by show 1 ≤ sizeLine; decide), fun t1 ht1 => ?_⟩
        have f1 : Ex H5 (upd H5 t1 (.tup [.int (y.2.1.getD 0 0)])) := Evl.Ex.new ht1
        have q1 : upd H5 t1 (.tup [.int (y.2.1.getD 0 0)]) t1 = some (.tup (([y.2.1.getD 0 0] : List Int).map V.int)) := upd_same
        generalize upd H5 t1 (.tup [.int (y.2.1.getD 0 0)]) = H6 at *
        refine ⟨(by show 3 ≤ sizeLine; decide), fun t2 ht2 => ?_⟩
        have f2 : Ex H6 (upd H6 t2 (.tup [vh, .ref t1, .int 0])) := Evl.Ex.new ht2
        exact fin (y := (y.1, [y.2.1.getD 0 0], 0)) (f1.trans f2) (tp_raw (sq_t upd_same) ((th.ex f1).ex f2) (tp_ints (sq_t (f2 _ _ q1)))) (steady_one sy)
      · exact fin Ex.r ty5 sy
    · rintro σ' H3 ⟨us, xs, x3, x4, rfl, b3, ⟨n3, s3, c3, hA3⟩, hp3, hR, hl, hS⟩
      try dsimp only
      try refine sq1 ?_
      refine ⟨_, rfl, a, n3, s3, c3, 5, rfl, hA3, by omega, by omega, fun H4 d4 n4 s4 c4 b4 hA4 hd4 => ⟨rfl, _, rfl, ?_⟩⟩
      have hp4 := b4 p _ npa hp3
      have hR4 := hR.kp (b4.kp hA3)
      have B4 := b3.trans b4
      have xl : 1 ≤ xs.length ∧ xs.length ≤ 3 := by omega
      rw [dInt]
      refine ite2 (fun c => ?_) (fun c => ?_)
      · refine sq1 ⟨_, rfl, a, n4, s4, c4, 6, rfl, hA4, by omega, by omega, fun H5 u n5 s5 c5 b5 hA5 hu => ?_⟩
        have hp5 := b5 p _ npa hp4
        have hR5 := hR4.kp (b5.kp hA4)
        have B5 := B4.trans b5
        refine gn1 ?_
        try dsimp only
        refine as1 (lc_lb (j := 4) ?_)
        refine ⟨_, rfl, p, rfl, ⟨_, sq_l hp5⟩, lc_map wk_list (fun (_ : Nat) y H => ∃ x, Tp K H y (rawD x) ∧ Ended u x) (fun _ _ e g => Evl.ex_l e g) (fun _ _ _ _ e ⟨x, hx, hy⟩ => ⟨x, hx.kp e, hy⟩) (sq_l hp5) (by rw [hR5.1]; omega) (fun i z H' Q' hi hz e' kk => ?_) ?_⟩
        · have hix : i < xs.length := by rw [← hR5.1]; exact hi
          have hxi : xs[i]? = some xs[i] := by simp [hix]
          exact ⟨_, rfl, _, rfl, _, rfl, _, z, xs[i], u, rfl, (hR5.2 i z _ hz hxi).ex e', hS _ (List.getElem_mem hix), by omega, fun H'' v' x' e'' hv' hx' => kk v' H'' e'' ⟨x', hv', hx'⟩⟩
        · intro D ys H6 hl6 hD6 e6 hD hr6
          obtain ⟨xs', hR', hS'⟩ := raws_of (Pp := Ended u) hr6
          have hD0 : H D = none := by
            cases e : H D with
            | none => rfl
            | some o =>
              by_cases c : D = a
              · rw [c, hA5] at hD6; cases hD6
              · rw [B5 D o c e] at hD6; cases hD6
          refine ⟨_, rfl, q H6 D ys xs' (B5.trans (.of e6)) ⟨n5, s5, c5, e6 _ _ hA5⟩ hD0 hD hR' ⟨?_, ?_, .inr ⟨u, by omega, hS'⟩⟩⟩
          · rw [← hR'.1, hl6, hR5.1]; exact xl.1
          · rw [← hR'.1, hl6, hR5.1]; exact xl.2
      · exact ⟨_, rfl, q H4 p us xs B4 ⟨n4, s4, c4, hA4⟩ hp0 hp4 hR4 ⟨xl.1, xl.2, .inl hS⟩⟩
end
end K28
end
section
set_option Elab.async false
set_option linter.all false
set_option maxRecDepth 100000
set_option maxHeartbeats 4000000
namespace K28
open PySem PySem.Spec PyProof.Rows L2
open Evl (Ex)
theorem cutG_take {α : Type} {xs : List α} {k : Nat} {z : Int} (hz : z = (k : Int)) (h : k ≤ xs.length) : cutG xs none (some z) = xs.take k := by
  subst hz
  unfold cutG
  rw [HT.sIx_none, HT.sIx_nat, Nat.min_eq_left h, List.drop_zero, Nat.sub_zero]
theorem cutG_init {α : Type} {xs : List α} {z : Int} (hz : z = -1) : cutG xs none (some z) = xs.take (xs.length - 1) := by
  subst hz
  unfold cutG
  rw [HT.sIx_none, List.drop_zero, Nat.sub_zero]
  show xs.take ((-1 + (xs.length : Int)).toNat) = _
  congr 1
  omega
theorem cutG_drop {α : Type} {xs : List α} {k : Nat} {z : Int} (hz : z = (k : Int)) (h : k ≤ xs.length) : cutG xs (some z) none = xs.drop k := by
  subst hz
  unfold cutG
  rw [HT.sIx_none, HT.sIx_nat, Nat.min_eq_left h]
  exact List.take_of_length_le (by rw [List.length_drop]; exact Nat.le_refl _)
theorem rSlL_cut {K : PySem.W.Frag} {H : Hp} {a : Addr} {ns : List Int} {lo hi : Option Int} {Q : VK} (h : SqL K H a (ns.map V.int)) (q : ∀ b H', Ex H H' → H' b = some (.lst ((cutG ns lo hi).map V.int)) → Q (.ref b) H') : rSlL K (.ref a) lo hi H Q :=
  ⟨a, _, rfl, h, fun p hp => by rw [cut_map]; exact q p _ (Evl.Ex.new hp) upd_same⟩
theorem tupOf_A {K : PySem.W.Frag} {H : Hp} {a : Addr} {xs : List V} {Q : VK} (h : SqA K H a xs) (q : ∀ t H', Ex H H' → SqT K H' t xs → Q (.ref t) H') : rTupOf K [.ref a] H Q := by
  rcases h with h | h
  · exact ⟨a, _, rfl, .inl ⟨h, fun l hl => q l _ (Evl.Ex.new hl) (sq_t upd_same)⟩⟩
  · exact ⟨a, _, rfl, .inr ⟨h, q a _ Ex.r h⟩⟩
theorem listOf_A {K : PySem.W.Frag} {H : Hp} {a : Addr} {xs : List V} {Q : VK} (h : SqA K H a xs) (q : ∀ t H', Ex H H' → H' t = some (.lst xs) → Q (.ref t) H') : Evl.rListS K [.ref a] H Q :=
  ⟨a, _, rfl, h, fun l hl => q l _ (Evl.Ex.new hl) upd_same⟩
theorem rSlL_tk {K : PySem.W.Frag} {H : Hp} {a : Addr} {ns : List Int} {k : Nat} {Q : VK} (h : SqL K H a (ns.map V.int)) (hk : k ≤ ns.length) (q : ∀ b H', Ex H H' → SqA K H' b ((ns.take k).map V.int) → Q (.ref b) H') : rSlL K (.ref a) none (some (k : Int)) H Q :=
  rSlL_cut h fun b H' e h' => q b H' e (.inl (sq_l (by rw [cutG_take rfl hk] at h'; exact h')))
theorem rSlT_tk {K : PySem.W.Frag} {H : Hp} {a : Addr} {ns : List Int} {k : Nat} {Q : VK} (h : SqT K H a (ns.map V.int)) (hk : k ≤ ns.length) (q : ∀ b H', Ex H H' → SqA K H' b ((ns.take k).map V.int) → Q (.ref b) H') : rSlA K (.ref a) none (some (k : Int)) H Q :=
  rSlA_take (K := K) h (by rw [List.length_map]; exact hk) rfl fun b H' e h' => q b H' e (.inr (by rw [take_ints] at h'; exact h'))
theorem goes_end2 {K : PySem.W.Frag} {H1 : Hp} {Q : VK} {l : List Int} {m : Nat} {s : Int} (hm : m ≤ l.length) (q : ∀ H', Ex H1 H' → Q (.bl (goes l m s)) H') (D : Addr) (ys : List V) (H' : Hp) (hl : ys.length = l.length - m) (e : Ex H1 H') (hD : H' D = some (.lst ys))
    (hr : ∀ (i : Nat) y, ys[i]? = some y → y = .bl (decide (l.getD (i + m) 0 = l.getD i 0 + s))) : rAll K [.ref D] H' Q := by
  have ey : ys = ((List.range (l.length - m)).map fun i => decide (l.getD (i + m) 0 = l.getD i 0 + s)).map V.bl := by
    rw [List.map_map]
    refine map_of (f := V.bl ∘ fun i => decide (l.getD (i + m) 0 = l.getD i 0 + s)) (by rw [List.length_range]; omega) fun i y h => ⟨i, ?_, hr i y h⟩
    have := (List.getElem?_eq_some_iff.mp h).1
    exact List.getElem?_range (by omega)
  refine ⟨D, _, rfl, sq_l (by rw [← ey]; exact hD), ?_⟩
  have : ((List.range (l.length - m)).map fun i => decide (l.getD (i + m) 0 = l.getD i 0 + s)).all id = goes l m s := by simp [goes, List.all_map, Function.comp_def]
  rw [this]
  exact q H' e
theorem wk_rangeC {lo c : Int} {n : Nat} : Walk (Itc lo c n) n (fun _ => True) (fun i H x H' => H' = H ∧ x = .int (lo + (i : Nat) * c)) := walk_rangeC
section
variable {P : Program} {w : World} {K : PySem.W.Frag} {mg : Str → Option Value} {base : Heap} {CT CM CB CF : Addr}
def spLPlain (K : PySem.W.Frag) : Sp := fun vs H Q _ => ∃ (ah al : Addr) (h l : List Int) (r : Int), vs = [.ref ah, .ref al, .int r] ∧
  ((SqL K H ah (h.map V.int) ∧ SqL K H al (l.map V.int)) ∨ (SqT K H ah (h.map V.int) ∧ SqT K H al (l.map V.int))) ∧ h.length ≤ 10000 ∧ l.length ≤ 10000 ∧
  ∀ (b : Raw) (v' : V) (H' : Hp), Ex H H' → Plain (h, l, r) b → Tp K H' v' (rawD b) → Q v' H'
abbrev s__law_plain : Stmt := top 77
theorem sc__law_plain : FnScope ["_law_head", "_law_loop", "_law_rise", "_law_size", "_law_many", "_law_turns", "_law_step", "_law_row", "_law_k"] ["_law_head", "_law_loop", "_law_rise"] (defScope s__law_plain) := ⟨rfl, rfl, rfl, by decide +kernel, rfl, by decide +kernel, by decide +kernel⟩
theorem ok_law_plain {f : Addr} {fd : FuncData} (F : Fun K "_law_plain" "_law_plain" s__law_plain f fd) (T : Txt K mg CT CM) : FnOk P w K mg base CX0 1 f fd ["_law_head", "_law_loop", "_law_rise"] (spLPlain K) := by
  refine F.ok sc__law_plain (fun vs H Q E h => ?_) (fun cdv A outer s H vs Q E hr h => ?_)
  · obtain ⟨_, _, _, _, _, rfl, _⟩ := h
    rfl
  · obtain ⟨ah, al, h, l, r, rfl, hS, zh, zl, q⟩ := h
    have ml : (l.map V.int).length = l.length := List.length_map _
    have mh : (h.map V.int).length = h.length := List.length_map _
    rcases hS with ⟨hH, hL⟩ | ⟨hH, hL⟩
    · refine ⟨_, (pss_cons (ps_if (pt_cmpR op_eq (pe_callB (r := Evl.rLenS K) call_len_seq (by rfl) T.b_len PySem.boot_len (pa_cons (pv 1) pa_nil)) pe_int (nomark _)) (pss_one (ps_ret (pe_tup (pa_cons (pe_callTy (r := rTupOf K) call_tuple_of (by rfl) T.b_tuple (by decide +kernel) (pa_cons (pv 0) pa_nil)) (pa_cons (pe_tup pa_nil) (pa_cons pe_int pa_nil)))))) pss_nil)
      (pss_cons (ps_set (i := 3) sc__law_plain.nd rfl (Or.inl rfl) (pe_callB (r := Evl.rLenS K) call_len_seq (by rfl) T.b_len PySem.boot_len (pa_cons (pv 1) pa_nil)))
      (pss_cons (ps_for PassesOwn.never rfl (pi_range3 rfl T.b_range (pa_cons (pe_callB (r := Evl.rLenS K) call_len_seq (by rfl) T.b_len PySem.boot_len (pa_cons (pv 1) pa_nil)) (pa_cons pe_int (pa_cons (pe_un un_neg pe_int) pa_nil)))) (pg_name (i := 4) sc__law_plain.nd rfl (Or.inr rfl)) (pss_cons (ps_set (i := 5) sc__law_plain.nd rfl (Or.inl rfl) (pe_op op_fdiv (pe_callB (r := Evl.rLenS K) call_len_seq (by rfl) T.b_len PySem.boot_len (pa_cons (pv 1) pa_nil)) (pv 4)))
      (pss_cons (ps_if (PW.pt (pw_or (pt_cmpR op_ne (pe_op op_mul (pv 5) (pv 4)) (pe_callB (r := Evl.rLenS K) call_len_seq (by rfl) T.b_len PySem.boot_len (pa_cons (pv 1) pa_nil)) (nomark _)) (pw_or1 (pt_cmpR op_ne (pe_op op_mod (pe_callTy call_int1 (by rfl) T.b_int (by decide +kernel) (pa_cons (pv 2) pa_nil)) (pv 5)) pe_int (nomark _))))) (pss_one ps_continue) pss_nil)
      (pss_cons (ps_set (i := 6) sc__law_plain.nd rfl (Or.inr rfl) (pe_op op_fdiv (pv 2) (pv 5)))
      (pss_one (ps_if (pt_val (pe_callB (r := rAll K) (cr_all rfl) (by rfl) T.b_all (by decide +kernel) (pa_cons (pe_lc (own := [("_law_k", 8)]) (g := gName 8) (tt := tYes) rfl sc__law_plain.nd (pi_range1 rfl T.b_range (pa_cons (pe_op op_sub (pe_callB (r := Evl.rLenS K) call_len_seq (by rfl) T.b_len PySem.boot_len (pa_cons (pv 1) pa_nil)) (pv 4)) pa_nil)) (blkOk_by (own := [("_law_k", 8)]) (N := ["_law_head", "_law_loop", "_law_rise", "_law_size", "_law_many", "_law_turns", "_law_step", "_law_row", "_law_k"]) (sc := defScope s__law_plain) (by decide +kernel)) (fun _ _ _ _ _ => pg_name (i := 8) sc__law_plain.nd rfl (Or.inl rfl)) (fun _ _ _ _ _ => pts_nil) (fun _ _ _ _ _ => (pe_cmpR op_eq (pe_ix (r := rIxL K) ix_list (pv 1) (pe_op op_add (pv 8) (pv 4)) (fun _ _ => rfl)) (pe_op op_add (pe_ix (r := rIxL K) ix_list (pv 1) (pv 8) (fun _ _ => rfl)) (pv 6)) (nomark _)))) pa_nil))) (pss_one (ps_set (i := 3) sc__law_plain.nd rfl (Or.inl rfl) (pv 4))) pss_nil))))))
      (pss_cons (ps_set (i := 2) sc__law_plain.nd rfl (Or.inl rfl) (pe_op op_fdiv (pv 2) (pe_op op_fdiv (pe_callB (r := Evl.rLenS K) call_len_seq (by rfl) T.b_len PySem.boot_len (pa_cons (pv 1) pa_nil)) (pv 3))))
      (pss_cons (ps_set (i := 7) sc__law_plain.nd rfl (Or.inl rfl) (pe_op op_cat (pe_callTy (r := Evl.rListS K) call_list_of (by rfl) T.b_list (by decide +kernel) (pa_cons (pv 0) pa_nil)) (pe_callTy (r := Evl.rListS K) call_list_of (by rfl) T.b_list (by decide +kernel) (pa_cons (pe_slice (r := rSlL K) sl_list (pv 1) po_none (po_some (pv 3))) pa_nil))))
      (C8.pss_cut (ps_while PassesOwn.never (PW.pt (pw_and (pt_cmpR op_gt (pe_callB (r := Evl.rLenS K) call_len_seq (by rfl) T.b_len PySem.boot_len (pa_cons (pv 7) pa_nil)) (pv 3) (nomark _)) (pw_and1 (pt_cmpR op_eq (pe_ix (r := rIxL K) ix_list (pv 7) (pe_op op_sub (pe_un un_neg pe_int) (pv 3)) (fun _ _ => rfl)) (pe_op op_sub (pe_ix (r := rIxL K) ix_list (pv 7) (pe_un un_neg pe_int) (fun _ _ => rfl)) (pv 2)) (nomark _))))) (pss_one (ps_set (i := 7) sc__law_plain.nd rfl (Or.inl rfl) (pe_slice (r := rSlL K) sl_list (pv 7) po_none (po_some (pe_un un_neg pe_int))))))
      (pss_one (ps_ret (pe_tup (pa_cons (pe_callTy (r := rTupOf K) call_tuple_of (by rfl) T.b_tuple (by decide +kernel) (pa_cons (pe_slice (r := rSlL K) sl_list (pv 7) po_none (po_some (pe_op op_sub (pe_callB (r := Evl.rLenS K) call_len_seq (by rfl) T.b_len PySem.boot_len (pa_cons (pv 7) pa_nil)) (pv 3)))) pa_nil)) (pa_cons (pe_callTy (r := rTupOf K) call_tuple_of (by rfl) T.b_tuple (by decide +kernel) (pa_cons (pe_slice (r := rSlL K) sl_list (pv 7) (po_some (pe_op op_sub (pe_callB (r := Evl.rLenS K) call_len_seq (by rfl) T.b_len PySem.boot_len (pa_cons (pv 7) pa_nil)) (pv 3))) po_none) pa_nil)) (pa_cons (pv 2) pa_nil)))))))))))), ?_⟩
      refine sq1 ⟨_, rfl, al, _, rfl, .inl hL, rfl, _, rfl, ?_⟩
      rw [dInt]
      by_cases l0 : l.length = 0
      · refine if_t (decide_eq_true (by rw [ml]; omega)) ?_
        refine rt1 (tp1 (cs1 (cb1 ⟨_, rfl, tupOf_A (.inl hH) fun t1 H1 e1 q1 => ⟨Nat.zero_le _, fun t2 ht2 => ?_⟩⟩)))
        have e2 : Ex H1 (upd H1 t2 (.tup [])) := Evl.Ex.new ht2
        have q2 : upd H1 t2 (.tup []) t2 = some (.tup (([] : List Int).map V.int)) := upd_same
        generalize upd H1 t2 (.tup []) = H2 at *
        refine ⟨(by show 3 ≤ sizeLine; decide), fun t3 ht3 => ?_⟩
        have e3 : Ex H2 (upd H2 t3 (.tup [.ref t1, .ref t2, .int 0])) := Evl.Ex.new ht3
        refine q (h, [], 0) (.ref t3) _ (e1.trans (e2.trans e3)) ?_ (tp_raw (sq_t upd_same) (tp_ints (Evl.ex_t (e2.trans e3) q1)) (tp_ints (sq_t (e3 _ _ q2))))
        unfold Plain
        rw [if_pos (List.eq_nil_of_length_eq_zero l0)]
      refine if_f (decide_eq_false (by rw [ml]; omega)) ?_
      have lp : 0 < l.length := by omega
      unfold tNext
      try dsimp only
      try refine sq1 ?_
      refine ⟨_, rfl, al, _, rfl, .inl hL, ?_⟩
      rw [ml]
      refine gn1 ?_
      try dsimp only
      refine sq1 (fr_fb ?_)
      have hrg : RgC ((l.length : Nat) : Int) 0 (-1) l.length := by
        have := RgC.neg (i := ((l.length : Nat) : Int)) (j := 0) (by omega) (by omega) (by omega) (by omega)
        simpa using this
      refine ⟨_, rfl, al, _, rfl, .inl hL, _, rfl, _, _, _, _, rfl, by rw [ml]; exact hrg, ?_⟩
      rw [ml]
      refine fb_go wk_rangeC (fun i σ' H' => ∃ (m : Nat) (x4 x5 x6 : Option V), σ' = [some (.ref ah), some (.ref al), some (.int r), some (.int (m : Int)), x4, x5, x6, none, none] ∧ Ex H H' ∧ 0 < m ∧ m ≤ l.length ∧ Sc l r m ∧ ∀ k, l.length - i < k → k < m → ¬ Sc l r k)
        ⟨l.length, none, none, none, rfl, Ex.r, lp, Nat.le_refl _, sc_full lp, fun k k0 k1 => by omega⟩ (fun i σ' H' _ _ => True.intro) ?_ ?_
      · rintro i x σ' H1 hi hx ⟨m, x4, x5, x6, rfl, e1, m0, mle, hsc, hno⟩
        have ex : x = .int ((l.length - i : Nat) : Int) := by
          rw [hx]
          congr 1
          omega
        subst ex
        clear hx
        have hL1 := Evl.ex_l e1 hL
        have k0 : 0 < l.length - i := by omega
        have kl : l.length - i ≤ l.length := Nat.sub_le _ _
        have hkeep : ¬ Sc l r (l.length - i) → ∀ k, l.length - (i + 1) < k → k < m → ¬ Sc l r k := fun hn k a b => by
          by_cases c : k = l.length - i
          · rw [c]; exact hn
          · exact hno k (by omega) b
        have hfresh : ∀ k, l.length - (i + 1) < k → k < l.length - i → ¬ Sc l r k := fun k a b => by omega
        generalize hk : l.length - i = k at *
        have hdv : 0 < l.length / k := Nat.div_pos kl k0
        have hdl : l.length / k ≤ l.length := Nat.div_le_self _ _
        refine gn1 ?_
        try dsimp only
        refine sq1 ⟨_, rfl, al, _, rfl, .inl hL1, _, rfl, _, _, rfl, rfl, ⟨by omega, by omega⟩, ?_⟩
        have ed : (((l.map V.int).length : Nat) : Int) / (k : Int) = ((l.length / k : Nat) : Int) := by rw [ml]; rfl
        dsimp only
        rw [ed]
        refine gn1 ?_
        try dsimp only
        refine sq1 ⟨_, rfl, _, rfl, _, _, rfl, rfl, .inl (by omega), _, rfl, al, _, rfl, .inl hL1, rfl, _, rfl, ?_⟩
        rw [ml, dInt]
        have hdd : ((l.length / k : Nat) : Int) * (k : Int) = ((l.length : Nat) : Int) ↔ k ∣ l.length := by
          constructor
          · intro z
            refine ⟨l.length / k, ?_⟩
            have : ((l.length / k * k : Nat) : Int) = ((l.length : Nat) : Int) := by rw [Int.natCast_mul]; exact z
            rw [Nat.mul_comm]
            omega
          · intro z
            rw [← Int.natCast_mul, Nat.div_mul_cancel z]
        by_cases d1 : k ∣ l.length
        · refine if_f (by rw [decide_eq_true (hdd.mpr d1)]; rfl) ?_
          refine ⟨_, rfl, .inl ⟨_, rfl, _, rfl, _, _, rfl, rfl, (by omega), rfl, _, rfl, ?_⟩⟩
          rw [dInt]
          by_cases d2 : (((l.length / k : Nat) : Int)) ∣ r
          · refine if_f (by rw [decide_eq_true (Int.emod_eq_zero_of_dvd d2)]; rfl) ?_
            try unfold tNext
            try dsimp only
            try refine sq1 ?_
            refine ⟨_, rfl, _, rfl, _, _, rfl, rfl, ⟨by omega, by omega⟩, ?_⟩
            refine gn1 ?_
            try dsimp only
            refine tb1 (cb1 (lc_lb (j := 8) ?_))
            refine ⟨_, rfl, al, _, rfl, .inl hL1, _, rfl, _, _, rfl, rfl, _, rfl, by rw [ml]; omega, by rw [ml]; omega, ?_⟩
            rw [ml, show (((l.length : Nat) : Int) - (k : Int)).toNat = l.length - k by omega]
            refine lc_map wk_range (fun (i : Nat) y H => y = .bl (decide (l.getD (i + k) 0 = l.getD i 0 + r / ((l.length / k : Nat) : Int)))) (fun _ _ _ _ => True.intro) (fun _ _ _ _ _ r => r) True.intro (by omega) (fun i' x H' Q' hlt hx e' kk => ?_) ?_
            · subst hx
              refine ⟨_, rfl, _, rfl, _, rfl, _, _, rfl, rfl, al, _, _, _, rfl, rfl, Evl.ex_l e' hL1, atI_int (i := i' + k) (by omega) (by omega), _, rfl, _, rfl, al, _, _, _, rfl, rfl, Evl.ex_l e' hL1, atI_int (i := i') (by omega) (by omega), _, rfl, _, _, rfl, rfl, rfl, ?_⟩
              rw [dInt]
              exact kk _ _ Ex.r rfl
            · refine fun D ys H2 hl hDn e' hD' hr' => goes_end2 (s := r / ((l.length / k : Nat) : Int)) kl (fun H3 e3 => ⟨_, rfl, ?_⟩) D ys H2 hl e' hD' hr'
              cases hg : goes l k (r / ((l.length / k : Nat) : Int)) with
              | true =>
                refine if_t rfl ?_
                exact ⟨_, rfl, k, _, _, _, rfl, e1.trans e3, k0, kl, ⟨d1, d2, goes_iff.mp hg⟩, fun k' a b => hfresh k' a (by omega)⟩
              | false =>
                refine if_f rfl ?_
                exact ⟨m, _, _, _, rfl, e1.trans e3, m0, mle, hsc, hkeep fun z => by rw [goes_iff.mpr z.2.2] at hg; cases hg⟩
          · refine if_t (by rw [decide_eq_false (fun z => d2 (Int.dvd_of_emod_eq_zero z))]; rfl) ?_
            exact ⟨m, _, _, _, rfl, e1, m0, mle, hsc, hkeep fun z => d2 z.2.1⟩
        · refine if_t (by rw [decide_eq_false (fun z => d1 (hdd.mp z))]; rfl) (if_t rfl ?_)
          exact ⟨m, _, _, _, rfl, e1, m0, mle, hsc, hkeep fun z => d1 z.1⟩
      · rintro σ' H1 ⟨m, x4, x5, x6, rfl, e1, m0, mle, hsc, hno⟩
        rw [Nat.sub_self] at hno
        have hL1 := Evl.ex_l e1 hL
        have hH1 := Evl.ex_l e1 hH
        have hdv : 0 < l.length / m := Nat.div_pos mle m0
        have hdl : l.length / m ≤ l.length := Nat.div_le_self _ _
        try dsimp only
        try refine sq1 ?_
        have ed : (((l.map V.int).length : Nat) : Int) / (m : Int) = ((l.length / m : Nat) : Int) := by rw [ml]; rfl
        refine ⟨_, rfl, _, rfl, al, _, rfl, .inl hL1, _, rfl, _, _, rfl, rfl, ⟨by omega, by omega⟩, _, _, rfl, rfl, ⟨by rw [ed]; omega, by rw [ed]; omega⟩, ?_⟩
        dsimp only
        rw [ed]
        have hv := fun n => sc_val (h := h) lp m0 hsc n
        have hlst := short_least (h := h) lp hno
        have ltk : (l.take m).length = m := by rw [List.length_take]; omega
        have hq0 : QP (val h l r) h.length m (r / ((l.length / m : Nat) : Int)) := by
          have := val_qp (h := h) (l := l.take m) (r := r / ((l.length / m : Nat) : Int)) (by omega)
          rw [show val h (l.take m) (r / ((l.length / m : Nat) : Int)) = val h l r from funext hv, ltk] at this
          exact this
        have erow : h.map V.int ++ (l.take m).map V.int = ((List.range (h.length + m)).map (val h l r)).map V.int := by
          rw [← List.map_append]
          congr 1
          refine list_ext (by rw [List.length_append, ltk, List.length_map, List.length_range]) fun i hi => ?_
          rw [List.length_append, ltk] at hi
          rw [getD_mapR hi]
          by_cases c : i < h.length
          · rw [val_lt c, gd_l c]
          · obtain ⟨t, rfl⟩ := Nat.exists_eq_add_of_le (show h.length ≤ i by omega)
            rw [val_loop (by omega), List.getD_eq_getElem?_getD, List.getElem?_append_right (by omega), Nat.add_sub_cancel_left, List.getElem?_take_of_lt (by omega), List.getD_eq_getElem?_getD]
        generalize r / ((l.length / m : Nat) : Int) = r' at *
        clear hv hno hsc
        refine gn1 ?_
        try dsimp only
        refine sq1 (as1 (op1 (cb1 ⟨_, rfl, listOf_A (.inl hH1) fun t1 H2 e2 q2 => cb1 ?_⟩)))
        refine ⟨_, rfl, _, rfl, _, rfl, rSlL_tk (Evl.ex_l e2 hL1) mle fun b H3 e3 q3 => listOf_A q3 fun t2 H4 e4 q4 => ?_⟩
        refine ⟨t1, t2, _, _, rfl, rfl, e4 _ _ (e3 _ _ q2), q4, Evl.sz_of (by rw [List.length_map, List.length_map, ltk]; omega), fun p hp => ?_⟩
        rw [erow]
        have e5 : Ex H4 (upd H4 p (.lst (((List.range (h.length + m)).map (val h l r)).map V.int))) := Evl.Ex.new hp
        have p5 : upd H4 p (.lst (((List.range (h.length + m)).map (val h l r)).map V.int)) p = some (.lst (((List.range (h.length + m)).map (val h l r)).map V.int)) := upd_same
        generalize upd H4 p (.lst (((List.range (h.length + m)).map (val h l r)).map V.int)) = H5 at *
        have E5 := e1.trans (e2.trans (e3.trans (e4.trans e5)))
        refine gn1 ?_
        try dsimp only
        have rl : ∀ k : Nat, ((List.range (k + m)).map (val h l r)).length = k + m := fun k => by rw [List.length_map, List.length_range]
        refine ⟨fun σ' H' => ∃ (k : Nat) (p : Addr), σ' = [some (.ref ah), some (.ref al), some (.int r'), some (.int (m : Int)), x4, x5, x6, some (.ref p), none] ∧ Ex H H' ∧ H' p = some (.lst (((List.range (k + m)).map (val h l r)).map V.int)) ∧ k ≤ h.length ∧ QP (val h l r) k m r' ∧ (∀ j, k = j + 1 → val h l r (j + m) ≠ val h l r j + r'), ?_, ?_⟩
        · refine ⟨fun mm σ' H' => ∃ p : Addr, σ' = [some (.ref ah), some (.ref al), some (.int r'), some (.int (m : Int)), x4, x5, x6, some (.ref p), none] ∧ Ex H H' ∧ H' p = some (.lst (((List.range (mm + m)).map (val h l r)).map V.int)) ∧ mm ≤ h.length ∧ QP (val h l r) mm m r', ⟨h.length, p, rfl, E5, p5, Nat.le_refl _, hq0⟩, ?_⟩
          rintro mm σ' H' ⟨p, rfl, e6, p6, hle, hq⟩
          refine ⟨_, rfl, p, _, rfl, .inl (sq_l p6), _, rfl, _, _, rfl, rfl, _, rfl, ite2 (fun c => ?_) (fun c => ?_)⟩
          · have c1 : 0 < mm := by have := of_decide_eq_true c; rw [List.length_map, rl] at this; omega
            obtain ⟨n, rfl⟩ : ∃ n, mm = n + 1 := ⟨mm - 1, by omega⟩
            refine ⟨_, rfl, _, rfl, _, rfl, _, _, rfl, rfl, p, _, _, _, rfl, rfl, sq_l p6, atI_neg (c := m) rfl (by rw [rl]; omega), _, rfl, _, rfl, p, _, _, _, rfl, rfl, sq_l p6, atI_neg (c := 0) rfl (by rw [rl]; omega), _, rfl, _, _, rfl, rfl, rfl, _, rfl, ?_⟩
            rw [rl, getD_mapR (by omega), getD_mapR (by omega), dInt, show n + 1 + m - 1 - m = n by omega, show n + 1 + m - 1 - 0 = n + m by omega]
            by_cases d : val h l r (n + m) = val h l r n + r'
            · refine if_t (decide_eq_true (by omega)) ?_
              refine ⟨_, fun _ _ n => n, ?_⟩
              refine ⟨_, rfl, _, rfl, _, rfl, rSlL_cut (sq_l p6) fun b H7 e7 q7 => ?_⟩
              rw [cutG_init rfl, rl, show n + 1 + m - 1 = n + m by omega, ← List.map_take, List.take_range, Nat.min_eq_left (by omega)] at q7
              exact ⟨n, Nat.lt_succ_self n, b, rfl, e6.trans e7, q7, by omega, qp_down hq d⟩
            · refine if_f (decide_eq_false (by omega)) ?_
              exact ⟨n + 1, p, rfl, e6, p6, hle, hq, fun j hj => by
                have : j = n := by omega
                rw [this]; exact d⟩
          · have c1 : mm = 0 := by
              have hn : ¬ ((m : Int)) < (((((List.range (mm + m)).map (val h l r)).map V.int).length : Nat) : Int) := fun z => c (decide_eq_true z)
              rw [List.length_map, rl] at hn
              omega
            subst c1
            exact ⟨0, p, rfl, e6, p6, hle, hq, fun j hj => by omega⟩
        · rintro σ' H6 ⟨k, p, rfl, e6, p6, hk, hq, hne⟩
          refine rt1 (tp1 (cs1 (cb1 ?_)))
          have elen : ((((((List.range (k + m)).map (val h l r)).map V.int).length : Nat) : Int) - (m : Int)) = ((k : Nat) : Int) := by rw [List.length_map, rl]; omega
          refine ⟨_, rfl, _, rfl, p, _, rfl, .inl (sq_l p6), _, rfl, _, _, rfl, rfl, _, rfl, rSlL_cut (sq_l p6) fun b H7 e7 q7 => ?_⟩
          rw [cutG_take elen (by rw [rl]; omega), ← List.map_take, List.take_range, Nat.min_eq_left (by omega)] at q7
          refine tupOf_A (.inl (sq_l q7)) fun t3 H8 e8 q8 => cs1 (cb1 ?_)
          have p8 := e8 _ _ (e7 _ _ p6)
          refine ⟨_, rfl, _, rfl, p, _, rfl, .inl (sq_l p8), _, rfl, _, _, rfl, rfl, _, rfl, ?_⟩
          unfold tNoPart
          dsimp only
          refine rSlL_cut (sq_l p8) fun b2 H9 e9 q9 => ?_
          rw [cutG_drop elen (by rw [rl]; omega)] at q9
          have edr : ((List.range (k + m)).map (val h l r)).drop k = (List.range m).map fun i => val h l r (k + i) := by
            rw [List.range_add, List.map_append, List.drop_left' (by rw [List.length_map, List.length_range]), List.map_map]
            rfl
          rw [edr] at q9
          refine tupOf_A (.inl (sq_l q9)) fun t4 H10 e10 q10 => ?_
          refine ⟨_, rfl, (by show 3 ≤ sizeLine; decide), fun t5 ht5 => ?_⟩
          have e11 : Ex H10 (upd H10 t5 (.tup [.ref t3, .ref t4, .int r'])) := Evl.Ex.new ht5
          refine q ((List.range k).map (val h l r), (List.range m).map fun i => val h l r (k + i), r') (.ref t5) _ (e6.trans (e7.trans (e8.trans (e9.trans (e10.trans e11))))) ?_ (tp_raw (sq_t upd_same) (tp_ints (Evl.ex_t (e9.trans (e10.trans e11)) q8)) (tp_ints (Evl.ex_t e11 q10)))
          unfold Plain
          rw [if_neg (fun (z : l = []) => by rw [z] at lp; simp at lp)]
          exact canon_of m0 hq hlst hne
    · refine ⟨_, (pss_cons (ps_if (pt_cmpR op_eq (pe_callB (r := Evl.rLenS K) call_len_seq (by rfl) T.b_len PySem.boot_len (pa_cons (pv 1) pa_nil)) pe_int (nomark _)) (pss_one (ps_ret (pe_tup (pa_cons (pe_callTy (r := rTupOf K) call_tuple_of (by rfl) T.b_tuple (by decide +kernel) (pa_cons (pv 0) pa_nil)) (pa_cons (pe_tup pa_nil) (pa_cons pe_int pa_nil)))))) pss_nil)
      (pss_cons (ps_set (i := 3) sc__law_plain.nd rfl (Or.inl rfl) (pe_callB (r := Evl.rLenS K) call_len_seq (by rfl) T.b_len PySem.boot_len (pa_cons (pv 1) pa_nil)))
      (pss_cons (ps_for PassesOwn.never rfl (pi_range3 rfl T.b_range (pa_cons (pe_callB (r := Evl.rLenS K) call_len_seq (by rfl) T.b_len PySem.boot_len (pa_cons (pv 1) pa_nil)) (pa_cons pe_int (pa_cons (pe_un un_neg pe_int) pa_nil)))) (pg_name (i := 4) sc__law_plain.nd rfl (Or.inr rfl)) (pss_cons (ps_set (i := 5) sc__law_plain.nd rfl (Or.inl rfl) (pe_op op_fdiv (pe_callB (r := Evl.rLenS K) call_len_seq (by rfl) T.b_len PySem.boot_len (pa_cons (pv 1) pa_nil)) (pv 4)))
      (pss_cons (ps_if (PW.pt (pw_or (pt_cmpR op_ne (pe_op op_mul (pv 5) (pv 4)) (pe_callB (r := Evl.rLenS K) call_len_seq (by rfl) T.b_len PySem.boot_len (pa_cons (pv 1) pa_nil)) (nomark _)) (pw_or1 (pt_cmpR op_ne (pe_op op_mod (pe_callTy call_int1 (by rfl) T.b_int (by decide +kernel) (pa_cons (pv 2) pa_nil)) (pv 5)) pe_int (nomark _))))) (pss_one ps_continue) pss_nil)
      (pss_cons (ps_set (i := 6) sc__law_plain.nd rfl (Or.inr rfl) (pe_op op_fdiv (pv 2) (pv 5)))
      (pss_one (ps_if (pt_val (pe_callB (r := rAll K) (cr_all rfl) (by rfl) T.b_all (by decide +kernel) (pa_cons (pe_lc (own := [("_law_k", 8)]) (g := gName 8) (tt := tYes) rfl sc__law_plain.nd (pi_range1 rfl T.b_range (pa_cons (pe_op op_sub (pe_callB (r := Evl.rLenS K) call_len_seq (by rfl) T.b_len PySem.boot_len (pa_cons (pv 1) pa_nil)) (pv 4)) pa_nil)) (blkOk_by (own := [("_law_k", 8)]) (N := ["_law_head", "_law_loop", "_law_rise", "_law_size", "_law_many", "_law_turns", "_law_step", "_law_row", "_law_k"]) (sc := defScope s__law_plain) (by decide +kernel)) (fun _ _ _ _ _ => pg_name (i := 8) sc__law_plain.nd rfl (Or.inl rfl)) (fun _ _ _ _ _ => pts_nil) (fun _ _ _ _ _ => (pe_cmpR op_eq (pe_ix (r := rIxT K) ix_tup (pv 1) (pe_op op_add (pv 8) (pv 4)) (fun _ _ => rfl)) (pe_op op_add (pe_ix (r := rIxT K) ix_tup (pv 1) (pv 8) (fun _ _ => rfl)) (pv 6)) (nomark _)))) pa_nil))) (pss_one (ps_set (i := 3) sc__law_plain.nd rfl (Or.inl rfl) (pv 4))) pss_nil))))))
      (pss_cons (ps_set (i := 2) sc__law_plain.nd rfl (Or.inl rfl) (pe_op op_fdiv (pv 2) (pe_op op_fdiv (pe_callB (r := Evl.rLenS K) call_len_seq (by rfl) T.b_len PySem.boot_len (pa_cons (pv 1) pa_nil)) (pv 3))))
      (pss_cons (ps_set (i := 7) sc__law_plain.nd rfl (Or.inl rfl) (pe_op op_cat (pe_callTy (r := Evl.rListS K) call_list_of (by rfl) T.b_list (by decide +kernel) (pa_cons (pv 0) pa_nil)) (pe_callTy (r := Evl.rListS K) call_list_of (by rfl) T.b_list (by decide +kernel) (pa_cons (pe_slice (r := rSlA K) sl_tupA (pv 1) po_none (po_some (pv 3))) pa_nil))))
      (C8.pss_cut (ps_while PassesOwn.never (PW.pt (pw_and (pt_cmpR op_gt (pe_callB (r := Evl.rLenS K) call_len_seq (by rfl) T.b_len PySem.boot_len (pa_cons (pv 7) pa_nil)) (pv 3) (nomark _)) (pw_and1 (pt_cmpR op_eq (pe_ix (r := rIxL K) ix_list (pv 7) (pe_op op_sub (pe_un un_neg pe_int) (pv 3)) (fun _ _ => rfl)) (pe_op op_sub (pe_ix (r := rIxL K) ix_list (pv 7) (pe_un un_neg pe_int) (fun _ _ => rfl)) (pv 2)) (nomark _))))) (pss_one (ps_set (i := 7) sc__law_plain.nd rfl (Or.inl rfl) (pe_slice (r := rSlL K) sl_list (pv 7) po_none (po_some (pe_un un_neg pe_int))))))
      (pss_one (ps_ret (pe_tup (pa_cons (pe_callTy (r := rTupOf K) call_tuple_of (by rfl) T.b_tuple (by decide +kernel) (pa_cons (pe_slice (r := rSlL K) sl_list (pv 7) po_none (po_some (pe_op op_sub (pe_callB (r := Evl.rLenS K) call_len_seq (by rfl) T.b_len PySem.boot_len (pa_cons (pv 7) pa_nil)) (pv 3)))) pa_nil)) (pa_cons (pe_callTy (r := rTupOf K) call_tuple_of (by rfl) T.b_tuple (by decide +kernel) (pa_cons (pe_slice (r := rSlL K) sl_list (pv 7) (po_some (pe_op op_sub (pe_callB (r := Evl.rLenS K) call_len_seq (by rfl) T.b_len PySem.boot_len (pa_cons (pv 7) pa_nil)) (pv 3))) po_none) pa_nil)) (pa_cons (pv 2) pa_nil)))))))))))), ?_⟩
      refine sq1 ⟨_, rfl, al, _, rfl, .inr hL, rfl, _, rfl, ?_⟩
      rw [dInt]
      by_cases l0 : l.length = 0
      · refine if_t (decide_eq_true (by rw [ml]; omega)) ?_
        refine rt1 (tp1 (cs1 (cb1 ⟨_, rfl, tupOf_A (.inr hH) fun t1 H1 e1 q1 => ⟨Nat.zero_le _, fun t2 ht2 => ?_⟩⟩)))
        have e2 : Ex H1 (upd H1 t2 (.tup [])) := Evl.Ex.new ht2
        have q2 : upd H1 t2 (.tup []) t2 = some (.tup (([] : List Int).map V.int)) := upd_same
        generalize upd H1 t2 (.tup []) = H2 at *
        refine ⟨(by show 3 ≤ sizeLine; decide), fun t3 ht3 => ?_⟩
        have e3 : Ex H2 (upd H2 t3 (.tup [.ref t1, .ref t2, .int 0])) := Evl.Ex.new ht3
        refine q (h, [], 0) (.ref t3) _ (e1.trans (e2.trans e3)) ?_ (tp_raw (sq_t upd_same) (tp_ints (Evl.ex_t (e2.trans e3) q1)) (tp_ints (sq_t (e3 _ _ q2))))
        unfold Plain
        rw [if_pos (List.eq_nil_of_length_eq_zero l0)]
      refine if_f (decide_eq_false (by rw [ml]; omega)) ?_
      have lp : 0 < l.length := by omega
      unfold tNext
      try dsimp only
      try refine sq1 ?_
      refine ⟨_, rfl, al, _, rfl, .inr hL, ?_⟩
      rw [ml]
      refine gn1 ?_
      try dsimp only
      refine sq1 (fr_fb ?_)
      have hrg : RgC ((l.length : Nat) : Int) 0 (-1) l.length := by
        have := RgC.neg (i := ((l.length : Nat) : Int)) (j := 0) (by omega) (by omega) (by omega) (by omega)
        simpa using this
      refine ⟨_, rfl, al, _, rfl, .inr hL, _, rfl, _, _, _, _, rfl, by rw [ml]; exact hrg, ?_⟩
      rw [ml]
      refine fb_go wk_rangeC (fun i σ' H' => ∃ (m : Nat) (x4 x5 x6 : Option V), σ' = [some (.ref ah), some (.ref al), some (.int r), some (.int (m : Int)), x4, x5, x6, none, none] ∧ Ex H H' ∧ 0 < m ∧ m ≤ l.length ∧ Sc l r m ∧ ∀ k, l.length - i < k → k < m → ¬ Sc l r k)
        ⟨l.length, none, none, none, rfl, Ex.r, lp, Nat.le_refl _, sc_full lp, fun k k0 k1 => by omega⟩ (fun i σ' H' _ _ => True.intro) ?_ ?_
      · rintro i x σ' H1 hi hx ⟨m, x4, x5, x6, rfl, e1, m0, mle, hsc, hno⟩
        have ex : x = .int ((l.length - i : Nat) : Int) := by
          rw [hx]
          congr 1
          omega
        subst ex
        clear hx
        have hL1 := Evl.ex_t e1 hL
        have k0 : 0 < l.length - i := by omega
        have kl : l.length - i ≤ l.length := Nat.sub_le _ _
        have hkeep : ¬ Sc l r (l.length - i) → ∀ k, l.length - (i + 1) < k → k < m → ¬ Sc l r k := fun hn k a b => by
          by_cases c : k = l.length - i
          · rw [c]; exact hn
          · exact hno k (by omega) b
        have hfresh : ∀ k, l.length - (i + 1) < k → k < l.length - i → ¬ Sc l r k := fun k a b => by omega
        generalize hk : l.length - i = k at *
        have hdv : 0 < l.length / k := Nat.div_pos kl k0
        have hdl : l.length / k ≤ l.length := Nat.div_le_self _ _
        refine gn1 ?_
        try dsimp only
        refine sq1 ⟨_, rfl, al, _, rfl, .inr hL1, _, rfl, _, _, rfl, rfl, ⟨by omega, by omega⟩, ?_⟩
        have ed : (((l.map V.int).length : Nat) : Int) / (k : Int) = ((l.length / k : Nat) : Int) := by rw [ml]; rfl
        dsimp only
        rw [ed]
        refine gn1 ?_
        try dsimp only
        refine sq1 ⟨_, rfl, _, rfl, _, _, rfl, rfl, .inl (by omega), _, rfl, al, _, rfl, .inr hL1, rfl, _, rfl, ?_⟩
        rw [ml, dInt]
        have hdd : ((l.length / k : Nat) : Int) * (k : Int) = ((l.length : Nat) : Int) ↔ k ∣ l.length := by
          constructor
          · intro z
            refine ⟨l.length / k, ?_⟩
            have : ((l.length / k * k : Nat) : Int) = ((l.length : Nat) : Int) := by rw [Int.natCast_mul]; exact z
            rw [Nat.mul_comm]
            omega
          · intro z
            rw [← Int.natCast_mul, Nat.div_mul_cancel z]
        by_cases d1 : k ∣ l.length
        · refine if_f (by rw [decide_eq_true (hdd.mpr d1)]; rfl) ?_
          refine ⟨_, rfl, .inl ⟨_, rfl, _, rfl, _, _, rfl, rfl, (by omega), rfl, _, rfl, ?_⟩⟩
          rw [dInt]
          by_cases d2 : (((l.length / k : Nat) : Int)) ∣ r
          · refine if_f (by rw [decide_eq_true (Int.emod_eq_zero_of_dvd d2)]; rfl) ?_
            try unfold tNext
            try dsimp only
            try refine sq1 ?_
            refine ⟨_, rfl, _, rfl, _, _, rfl, rfl, ⟨by omega, by omega⟩, ?_⟩
            refine gn1 ?_
            try dsimp only
            refine tb1 (cb1 (lc_lb (j := 8) ?_))
            refine ⟨_, rfl, al, _, rfl, .inr hL1, _, rfl, _, _, rfl, rfl, _, rfl, by rw [ml]; omega, by rw [ml]; omega, ?_⟩
            rw [ml, show (((l.length : Nat) : Int) - (k : Int)).toNat = l.length - k by omega]
            refine lc_map wk_range (fun (i : Nat) y H => y = .bl (decide (l.getD (i + k) 0 = l.getD i 0 + r / ((l.length / k : Nat) : Int)))) (fun _ _ _ _ => True.intro) (fun _ _ _ _ _ r => r) True.intro (by omega) (fun i' x H' Q' hlt hx e' kk => ?_) ?_
            · subst hx
              refine ⟨_, rfl, _, rfl, _, rfl, _, _, rfl, rfl, al, _, _, _, rfl, rfl, Evl.ex_t e' hL1, atI_int (i := i' + k) (by omega) (by omega), _, rfl, _, rfl, al, _, _, _, rfl, rfl, Evl.ex_t e' hL1, atI_int (i := i') (by omega) (by omega), _, rfl, _, _, rfl, rfl, rfl, ?_⟩
              rw [dInt]
              exact kk _ _ Ex.r rfl
            · refine fun D ys H2 hl hDn e' hD' hr' => goes_end2 (s := r / ((l.length / k : Nat) : Int)) kl (fun H3 e3 => ⟨_, rfl, ?_⟩) D ys H2 hl e' hD' hr'
              cases hg : goes l k (r / ((l.length / k : Nat) : Int)) with
              | true =>
                refine if_t rfl ?_
                exact ⟨_, rfl, k, _, _, _, rfl, e1.trans e3, k0, kl, ⟨d1, d2, goes_iff.mp hg⟩, fun k' a b => hfresh k' a (by omega)⟩
              | false =>
                refine if_f rfl ?_
                exact ⟨m, _, _, _, rfl, e1.trans e3, m0, mle, hsc, hkeep fun z => by rw [goes_iff.mpr z.2.2] at hg; cases hg⟩
          · refine if_t (by rw [decide_eq_false (fun z => d2 (Int.dvd_of_emod_eq_zero z))]; rfl) ?_
            exact ⟨m, _, _, _, rfl, e1, m0, mle, hsc, hkeep fun z => d2 z.2.1⟩
        · refine if_t (by rw [decide_eq_false (fun z => d1 (hdd.mp z))]; rfl) (if_t rfl ?_)
          exact ⟨m, _, _, _, rfl, e1, m0, mle, hsc, hkeep fun z => d1 z.1⟩
      · rintro σ' H1 ⟨m, x4, x5, x6, rfl, e1, m0, mle, hsc, hno⟩
        rw [Nat.sub_self] at hno
        have hL1 := Evl.ex_t e1 hL
        have hH1 := Evl.ex_t e1 hH
        have hdv : 0 < l.length / m := Nat.div_pos mle m0
        have hdl : l.length / m ≤ l.length := Nat.div_le_self _ _
        try dsimp only
        try refine sq1 ?_
        have ed : (((l.map V.int).length : Nat) : Int) / (m : Int) = ((l.length / m : Nat) : Int) := by rw [ml]; rfl
        refine ⟨_, rfl, _, rfl, al, _, rfl, .inr hL1, _, rfl, _, _, rfl, rfl, ⟨by omega, by omega⟩, _, _, rfl, rfl, ⟨by rw [ed]; omega, by rw [ed]; omega⟩, ?_⟩
        dsimp only
        rw [ed]
        have hv := fun n => sc_val (h := h) lp m0 hsc n
        have hlst := short_least (h := h) lp hno
        have ltk : (l.take m).length = m := by rw [List.length_take]; omega
        have hq0 : QP (val h l r) h.length m (r / ((l.length / m : Nat) : Int)) := by
          have := val_qp (h := h) (l := l.take m) (r := r / ((l.length / m : Nat) : Int)) (by omega)
          rw [show val h (l.take m) (r / ((l.length / m : Nat) : Int)) = val h l r from funext hv, ltk] at this
          exact this
        have erow : h.map V.int ++ (l.take m).map V.int = ((List.range (h.length + m)).map (val h l r)).map V.int := by
          rw [← List.map_append]
          congr 1
          refine list_ext (by rw [List.length_append, ltk, List.length_map, List.length_range]) fun i hi => ?_
          rw [List.length_append, ltk] at hi
          rw [getD_mapR hi]
          by_cases c : i < h.length
          · rw [val_lt c, gd_l c]
          · obtain ⟨t, rfl⟩ := Nat.exists_eq_add_of_le (show h.length ≤ i by omega)
            rw [val_loop (by omega), List.getD_eq_getElem?_getD, List.getElem?_append_right (by omega), Nat.add_sub_cancel_left, List.getElem?_take_of_lt (by omega), List.getD_eq_getElem?_getD]
        generalize r / ((l.length / m : Nat) : Int) = r' at *
        clear hv hno hsc
        refine gn1 ?_
        try dsimp only
        refine sq1 (as1 (op1 (cb1 ⟨_, rfl, listOf_A (.inr hH1) fun t1 H2 e2 q2 => cb1 ?_⟩)))
        refine ⟨_, rfl, _, rfl, _, rfl, rSlT_tk (Evl.ex_t e2 hL1) mle fun b H3 e3 q3 => listOf_A q3 fun t2 H4 e4 q4 => ?_⟩
        refine ⟨t1, t2, _, _, rfl, rfl, e4 _ _ (e3 _ _ q2), q4, Evl.sz_of (by rw [List.length_map, List.length_map, ltk]; omega), fun p hp => ?_⟩
        rw [erow]
        have e5 : Ex H4 (upd H4 p (.lst (((List.range (h.length + m)).map (val h l r)).map V.int))) := Evl.Ex.new hp
        have p5 : upd H4 p (.lst (((List.range (h.length + m)).map (val h l r)).map V.int)) p = some (.lst (((List.range (h.length + m)).map (val h l r)).map V.int)) := upd_same
        generalize upd H4 p (.lst (((List.range (h.length + m)).map (val h l r)).map V.int)) = H5 at *
        have E5 := e1.trans (e2.trans (e3.trans (e4.trans e5)))
        refine gn1 ?_
        try dsimp only
        have rl : ∀ k : Nat, ((List.range (k + m)).map (val h l r)).length = k + m := fun k => by rw [List.length_map, List.length_range]
        refine ⟨fun σ' H' => ∃ (k : Nat) (p : Addr), σ' = [some (.ref ah), some (.ref al), some (.int r'), some (.int (m : Int)), x4, x5, x6, some (.ref p), none] ∧ Ex H H' ∧ H' p = some (.lst (((List.range (k + m)).map (val h l r)).map V.int)) ∧ k ≤ h.length ∧ QP (val h l r) k m r' ∧ (∀ j, k = j + 1 → val h l r (j + m) ≠ val h l r j + r'), ?_, ?_⟩
        · refine ⟨fun mm σ' H' => ∃ p : Addr, σ' = [some (.ref ah), some (.ref al), some (.int r'), some (.int (m : Int)), x4, x5, x6, some (.ref p), none] ∧ Ex H H' ∧ H' p = some (.lst (((List.range (mm + m)).map (val h l r)).map V.int)) ∧ mm ≤ h.length ∧ QP (val h l r) mm m r', ⟨h.length, p, rfl, E5, p5, Nat.le_refl _, hq0⟩, ?_⟩
          rintro mm σ' H' ⟨p, rfl, e6, p6, hle, hq⟩
          refine ⟨_, rfl, p, _, rfl, .inl (sq_l p6), _, rfl, _, _, rfl, rfl, _, rfl, ite2 (fun c => ?_) (fun c => ?_)⟩
          · have c1 : 0 < mm := by have := of_decide_eq_true c; rw [List.length_map, rl] at this; omega
            obtain ⟨n, rfl⟩ : ∃ n, mm = n + 1 := ⟨mm - 1, by omega⟩
            refine ⟨_, rfl, _, rfl, _, rfl, _, _, rfl, rfl, p, _, _, _, rfl, rfl, sq_l p6, atI_neg (c := m) rfl (by rw [rl]; omega), _, rfl, _, rfl, p, _, _, _, rfl, rfl, sq_l p6, atI_neg (c := 0) rfl (by rw [rl]; omega), _, rfl, _, _, rfl, rfl, rfl, _, rfl, ?_⟩
            rw [rl, getD_mapR (by omega), getD_mapR (by omega), dInt, show n + 1 + m - 1 - m = n by omega, show n + 1 + m - 1 - 0 = n + m by omega]
            by_cases d : val h l r (n + m) = val h l r n + r'
            · refine if_t (decide_eq_true (by omega)) ?_
              refine ⟨_, fun _ _ n => n, ?_⟩
              refine ⟨_, rfl, _, rfl, _, rfl, rSlL_cut (sq_l p6) fun b H7 e7 q7 => ?_⟩
              rw [cutG_init rfl, rl, show n + 1 + m - 1 = n + m by omega, ← List.map_take, List.take_range, Nat.min_eq_left (by omega)] at q7
              exact ⟨n, Nat.lt_succ_self n, b, rfl, e6.trans e7, q7, by omega, qp_down hq d⟩
            · refine if_f (decide_eq_false (by omega)) ?_
              exact ⟨n + 1, p, rfl, e6, p6, hle, hq, fun j hj => by
                have : j = n := by omega
                rw [this]; exact d⟩
          · have c1 : mm = 0 := by
              have hn : ¬ ((m : Int)) < (((((List.range (mm + m)).map (val h l r)).map V.int).length : Nat) : Int) := fun z => c (decide_eq_true z)
              rw [List.length_map, rl] at hn
              omega
            subst c1
            exact ⟨0, p, rfl, e6, p6, hle, hq, fun j hj => by omega⟩
        · rintro σ' H6 ⟨k, p, rfl, e6, p6, hk, hq, hne⟩
          refine rt1 (tp1 (cs1 (cb1 ?_)))
          have elen : ((((((List.range (k + m)).map (val h l r)).map V.int).length : Nat) : Int) - (m : Int)) = ((k : Nat) : Int) := by rw [List.length_map, rl]; omega
          refine ⟨_, rfl, _, rfl, p, _, rfl, .inl (sq_l p6), _, rfl, _, _, rfl, rfl, _, rfl, rSlL_cut (sq_l p6) fun b H7 e7 q7 => ?_⟩
          rw [cutG_take elen (by rw [rl]; omega), ← List.map_take, List.take_range, Nat.min_eq_left (by omega)] at q7
          refine tupOf_A (.inl (sq_l q7)) fun t3 H8 e8 q8 => cs1 (cb1 ?_)
          have p8 := e8 _ _ (e7 _ _ p6)
          refine ⟨_, rfl, _, rfl, p, _, rfl, .inl (sq_l p8), _, rfl, _, _, rfl, rfl, _, rfl, ?_⟩
          unfold tNoPart
          dsimp only
          refine rSlL_cut (sq_l p8) fun b2 H9 e9 q9 => ?_
          rw [cutG_drop elen (by rw [rl]; omega)] at q9
          have edr : ((List.range (k + m)).map (val h l r)).drop k = (List.range m).map fun i => val h l r (k + i) := by
            rw [List.range_add, List.map_append, List.drop_left' (by rw [List.length_map, List.length_range]), List.map_map]
            rfl
          rw [edr] at q9
          refine tupOf_A (.inl (sq_l q9)) fun t4 H10 e10 q10 => ?_
          refine ⟨_, rfl, (by show 3 ≤ sizeLine; decide), fun t5 ht5 => ?_⟩
          have e11 : Ex H10 (upd H10 t5 (.tup [.ref t3, .ref t4, .int r'])) := Evl.Ex.new ht5
          refine q ((List.range k).map (val h l r), (List.range m).map fun i => val h l r (k + i), r') (.ref t5) _ (e6.trans (e7.trans (e8.trans (e9.trans (e10.trans e11))))) ?_ (tp_raw (sq_t upd_same) (tp_ints (Evl.ex_t (e9.trans (e10.trans e11)) q8)) (tp_ints (Evl.ex_t e11 q10)))
          unfold Plain
          rw [if_neg (fun (z : l = []) => by rw [z] at lp; simp at lp)]
          exact canon_of m0 hq hlst hne
end
end K28
end
section
set_option Elab.async false
set_option linter.all false
set_option maxRecDepth 100000
set_option maxHeartbeats 4000000
namespace K28
open PySem PySem.Spec PyProof.Rows L2
open Evl (Ex)
theorem catA_of {K : PySem.W.Frag} {H : Hp} {a b : Addr} {xs ys : List V} {Q : VK} (ha : SqT K H a xs) (hb : SqT K H b ys) (hz : xs.length + ys.length ≤ sizeLine) (q : ∀ p H', Ex H H' → SqT K H' p (xs ++ ys) → Q (.ref p) H') : rCatA K (.ref a) (.ref b) H Q := by
  refine ⟨a, b, xs, ys, rfl, rfl, ha, hb, hz, fun e => ?_, fun _ e => ?_, fun _ _ p hp => q p _ (Evl.Ex.new hp) (sq_t upd_same)⟩
  · exact q b H Ex.r (by rw [e, List.nil_append]; exact hb)
  · exact q a H Ex.r (by rw [e, List.append_nil]; exact ha)
section
variable {P : Program} {w : World} {K : PySem.W.Frag} {mg : Str → Option Value} {base : Heap} {CT CM CB CF : Addr}
abbrev s__law_is_integer : Stmt := top 71
theorem sc__law_is_integer : FnScope ["_law_thing"] ["_law_thing"] (defScope s__law_is_integer) := ⟨rfl, rfl, rfl, by decide +kernel, rfl, by decide +kernel, by decide +kernel⟩
theorem ok_law_is_integer {f : Addr} {fd : FuncData} (F : Fun K "_law_is_integer" "_law_is_integer" s__law_is_integer f fd) (T : Txt K mg CT CM) : FnOk P w K mg base CX0 1 f fd ["_law_thing"] spInteger := by
  refine F.ok sc__law_is_integer (fun vs H Q E h => ?_) (fun cdv A outer s H vs Q E hr h => ?_)
  · obtain ⟨i, rfl, _⟩ := h
    rfl
  · obtain ⟨i, rfl, q⟩ := h
    refine ⟨_, (pss_one (ps_ret (pe_and (pe_callB (r := rIsi K) call_isi (by rfl) T.b_isinstance (by decide +kernel) (pa_cons (pv 0) (pa_cons (pe_bltn (v := .ty "int") rfl T.b_int (by decide +kernel) rfl) pa_nil))) (pe_one (pe_not (pe_callB (r := rIsi K) call_isi (by rfl) T.b_isinstance (by decide +kernel) (pa_cons (pv 0) (pa_cons (pe_bltn (v := .ty "bool") rfl T.b_bool (by decide +kernel) rfl) pa_nil)))))))), ?_⟩
    refine ⟨_, rfl, _, _, _, _, true, rfl, .ty _, .base (.int i), kit_ty (by decide +kernel), true, rfl, ?_⟩
    refine iteT ⟨_, rfl, _, _, _, _, false, rfl, .ty _, .base (.int i), kit_ty (by decide +kernel), false, rfl, ?_⟩
    exact q
abbrev s__law_is_count : Stmt := top 72
theorem sc__law_is_count : FnScope ["_law_thing"] ["_law_thing"] (defScope s__law_is_count) := ⟨rfl, rfl, rfl, by decide +kernel, rfl, by decide +kernel, by decide +kernel⟩
theorem ok_law_is_count {f : Addr} {fd : FuncData} (F : Fun K "_law_is_count" "_law_is_count" s__law_is_count f fd) (T : Txt K mg CT CM) (c__law_is_integer : C8.Cal P w K mg base 1 "_law_is_integer" spInteger []) : FnOk P w K mg base CX0 2 f fd ["_law_thing"] spCount := by
  refine F.ok sc__law_is_count (fun vs H Q E h => ?_) (fun cdv A outer s H vs Q E hr h => ?_)
  · obtain ⟨i, rfl, _⟩ := h
    rfl
  · obtain ⟨i, rfl, q⟩ := h
    refine ⟨_, (pss_one (ps_ret (pe_and (C8.pe_c c__law_is_integer hr (by omega) rfl (pa_cons (pv 0) pa_nil)) (pe_one (pe_cmpR op_ge (pv 0) pe_int (nomark _)))))), ?_⟩
    exact ⟨_, rfl, i, rfl, true, rfl, iteT ⟨_, rfl, _, _, rfl, rfl, q⟩⟩
abbrev s__law_ahead : Stmt := top 81
theorem sc__law_ahead : FnScope ["_law_deeds", "_law_inlet", "_law_told", "_law_taken", "_law_deed"] ["_law_deeds", "_law_inlet"] (defScope s__law_ahead) := ⟨rfl, rfl, rfl, by decide +kernel, rfl, by decide +kernel, by decide +kernel⟩
theorem ok_law_ahead {f : Addr} {fd : FuncData} (F : Fun K "_law_ahead" "_law_ahead" s__law_ahead f fd) (T : Txt K mg CT CM) : FnOk P w K mg base CX0 1 f fd ["_law_deeds", "_law_inlet"] (spTakes K) := by
  refine F.ok sc__law_ahead (fun vs H Q E h => ?_) (fun cdv A outer s H vs Q E hr h => ?_)
  · obtain ⟨_, _, _, rfl, _⟩ := h
    rfl
  · obtain ⟨a, ds, k, rfl, hA, hz, q⟩ := h
    refine ⟨_, (pss_cons (ps_set (i := 2) sc__law_ahead.nd rfl (Or.inl rfl) (pe_lst pa_nil))
      (pss_cons (ps_set (i := 3) sc__law_ahead.nd rfl (Or.inl rfl) pe_int)
      (pss_cons (ps_for PassesOwn.never rfl (pi_list (pv 0)) (pg_name (i := 4) sc__law_ahead.nd rfl (Or.inl rfl)) (pss_one (ps_if (pt_cmpR op_eq (pv 4) pe_str (nomark _)) (pss_one (ps_expr (pe_bm PySem.F.plainAttrs_list PySem.F.slot_list_append PySem.F.type_list_append mt_append (pv 2) (pa_cons (pv 3) pa_nil)))) (pss_one (ps_if (pt_cmpR op_eq (pv 4) (pv 1) (nomark _)) (pss_one (ps_set (i := 3) sc__law_ahead.nd rfl (Or.inl rfl) (pe_op op_add (pv 3) pe_int))) pss_nil)))))
      (pss_one (ps_ret (pe_tup (pa_cons (pv 2) (pa_cons (pv 3) pa_nil)))))))), ?_⟩
    refine ⟨Nat.zero_le _, fun l hl => ?_⟩
    have e0 : Ex H (upd H l (.lst [])) := Evl.Ex.new hl
    dsimp only
    refine sq1 (as1 ?_)
    unfold tC
    dsimp only
    refine sq1 (fr_fb ?_)
    refine ⟨_, rfl, a, rfl, ⟨_, sq_l (e0 _ _ hA)⟩, fb_go wk_list (fun i σ' H' => ∃ d : Option V, σ' = [some (.ref a), some (.int (k : Int)), some (.ref l), some (.int (ahead k (ds.take i) 0).2), d] ∧ Ex H H' ∧ H' l = some (.lst ((ahead k (ds.take i) 0).1.map V.int)))
      ⟨none, rfl, e0, upd_same⟩ (fun i σ' H' _ ⟨_, _, e, _⟩ => sq_l (e _ _ hA)) ?_ ?_⟩
    · rintro i x σ' H' hi hx ⟨d0, rfl, e, hL⟩
      obtain ⟨d, hd, rfl⟩ := get_map hx
      have hi' : i < ds.length := (List.getElem?_eq_some_iff.mp hd).1
      have et : ds.take (i + 1) = ds.take i ++ [d] := by rw [List.take_succ, hd]; rfl
      have hs := ahead_snoc k (ds.take i) d 0
      rw [← et] at hs
      have hlen : ((ahead k (ds.take i) 0).1.map V.int).length < 100000 := by
        rw [List.length_map]
        have := ahead_len k (ds.take i) 0
        rw [List.length_take] at this
        omega
      have nla : l ≠ a := fun z => by rw [← z, hl] at hA; cases hA
      cases d with
      | none =>
        refine ⟨_, rfl, rfl, _, rfl, if_t (by decide) ?_⟩
        refine ⟨_, rfl, .inl ⟨rfl, _, sq_l hL⟩, _, rfl, l, _, _, rfl, rfl, hL, Evl.sz_lt hlen, ?_⟩
        refine ⟨some (dv none), ?_, Evl.Ex.mut e hl, ?_⟩
        · rw [hs]; rfl
        · rw [upd_same, hs]
          dsimp only
          rw [List.map_append]
          rfl
      | some j =>
        refine ⟨_, rfl, rfl, _, rfl, if_f (by rw [decide_eq_false (fun z => by cases z)]) ?_⟩
        refine ⟨_, rfl, _, rfl, rfl, _, rfl, ?_⟩
        by_cases c : j = k
        · refine if_t (by subst c; exact decide_eq_true rfl) ?_
          refine ⟨_, rfl, _, _, rfl, rfl, ?_⟩
          refine ⟨some (dv (some j)), ?_, e, ?_⟩
          · rw [hs]
            dsimp only
            rw [if_pos c]
            rfl
          · rw [hs]; exact hL
        · refine if_f (decide_eq_false fun z => c (by have := V.int.inj z; omega)) ?_
          refine ⟨some (dv (some j)), ?_, e, ?_⟩
          · rw [hs]
            dsimp only
            rw [if_neg c]
            rfl
          · rw [hs]; exact hL
    · rintro σ' H' ⟨d, rfl, e, hL⟩
      rw [List.length_map, List.take_length] at hL ⊢
      exact ⟨_, rfl, _, rfl, (by show 2 ≤ sizeLine; decide), fun p hp => q p l _ (e.trans (Evl.Ex.new hp)) upd_same (Evl.Ex.new hp _ _ hL)⟩
def spLTab (K : PySem.W.Frag) (CT : Addr) : Sp := fun vs H Q _ => ∃ (v : V) (x : Raw), vs = [v] ∧ Tp K H v (rawD x) ∧ Good x.1 x.2.1 x.2.2 ∧ SzR x ∧ ∀ (H' : Hp) (t : Addr) (b : Raw), Ex H H' → Plain x b → TabAt K CT H' t b → Q (.ref t) H'
abbrev s__law_table : Stmt := top 80
theorem sc__law_table : FnScope ["_law_raw_here"] ["_law_raw_here"] (defScope s__law_table) := ⟨rfl, rfl, rfl, by decide +kernel, rfl, by decide +kernel, by decide +kernel⟩
theorem ok_law_table {f : Addr} {fd : FuncData} (F : Fun K "_law_table" "_law_table" s__law_table f fd) (T : Txt K mg CT CM) (m_Table3 : C8.Mak P w K mg base 5 "Table" CT (spTable K CT) []) : FnOk P w K mg base CX0 7 f fd ["_law_raw_here"] (spLTab K CT) := by
  refine F.ok sc__law_table (fun vs H Q E h => ?_) (fun cdv A outer s H vs Q E hr h => ?_)
  · obtain ⟨_, _, rfl, _⟩ := h
    rfl
  · obtain ⟨v, ⟨h, l, r⟩, rfl, ht, g, hz, q⟩ := h
    obtain ⟨a, vh, vl, rfl, hA, th, tl⟩ := ht.raw
    obtain ⟨ah, rfl, hh⟩ := th.ints
    obtain ⟨al, rfl, hl⟩ := tl.ints
    refine ⟨_, (pss_one (ps_ret (C8.pe_mk m_Table3 hr (by omega) rfl (pa_cons (pe_ix (r := rIxT K) ix_tup (pv 0) pe_int (fun _ _ => rfl)) (pa_cons (pe_ix (r := rIxT K) ix_tup (pv 0) pe_int (fun _ _ => rfl)) (pa_cons (pe_ix (r := rIxT K) ix_tup (pv 0) pe_int (fun _ _ => rfl)) pa_nil)))))), ?_⟩
    refine rt1 ⟨_, rfl, a, _, _, _, rfl, rfl, hA, rfl, _, rfl, a, _, _, _, rfl, rfl, hA, rfl, _, rfl, a, _, _, _, rfl, rfl, hA, rfl, fun x dx nx nd ne => ?_⟩
    have em := made_ex0 (C := CT) nx nd
    exact ⟨x, dx, ah, al, h, l, r, rfl, upd_same, .inr (Evl.ex_t em hh), .inr (Evl.ex_t em hl), hz, g, fun b H' kk hb ht => ⟨rfl, q H' x b (made_ex nx nd kk) hb ht⟩⟩
def spSame (K : PySem.W.Frag) (CT : Addr) : Sp := fun vs H Q _ => ∃ (t : Addr) (v : V) (b : Raw), vs = [.ref t, v] ∧ TabAt K CT H t b ∧ Tp K H v (rawD b) ∧ cnt b.1 = true ∧ cnt b.2.1 = true ∧ 0 ≤ b.2.2 ∧ b.1.length ≤ 10000 ∧ b.2.1.length ≤ 10000 ∧ ∀ H', Ex H H' → Q (.bl true) H'
abbrev s__law_same : Stmt := top 79
theorem sc__law_same : FnScope ["_law_table_here", "_law_raw_here", "_law_one"] ["_law_table_here", "_law_raw_here"] (defScope s__law_same) := ⟨rfl, rfl, rfl, by decide +kernel, rfl, by decide +kernel, by decide +kernel⟩
theorem ok_law_same {f : Addr} {fd : FuncData} (F : Fun K "_law_same" "_law_same" s__law_same f fd) (T : Txt K mg CT CM) (c__law_is_count : C8.Cal P w K mg base 2 "_law_is_count" spCount []) : FnOk P w K mg base CX0 3 f fd ["_law_table_here", "_law_raw_here"] (spSame K CT) := by
  refine F.ok sc__law_same (fun vs H Q E h => ?_) (fun cdv A outer s H vs Q E hr h => ?_)
  · obtain ⟨_, _, _, rfl, _⟩ := h
    rfl
  · obtain ⟨t, v, ⟨h, l, r⟩, rfl, ht, hv, ch, cl, r0, zh, zl, q⟩ := h
    obtain ⟨a, vh, vl, rfl, hA, th, tl⟩ := hv.raw
    obtain ⟨dx, ah, al, hp, hh, hl⟩ := ht.parts
    dsimp only at hp hh hl hA th tl ch cl r0 zh zl
    refine ⟨_, (pss_cons (ps_if (PW.pt (pw_or (pt_not (pt_val (pe_callB (r := rIsi K) call_isi (by rfl) T.b_isinstance (by decide +kernel) (pa_cons (pv 0) (pa_cons (C8.pe_gc rfl T.g_Table) pa_nil))))) (pw_or (pt_cmpR (r := rNeD K) (op_neD hr.units) (pe_fldK (K := K) (pv 0) rfl rfl) (pe_ix (r := rIxT K) ix_tup (pv 1) pe_int (fun _ _ => rfl)) (nomark _)) (pw_or1 (pt_cmpR (r := rNeD K) (op_neD hr.units) (pe_fldK (K := K) (pv 0) rfl rfl) (pe_ix (r := rIxT K) ix_tup (pv 1) pe_int (fun _ _ => rfl)) (nomark _)))))) (pss_one (ps_ret pe_bl)) pss_nil)
      (pss_cons (ps_if (PW.pt (pw_or (pt_not (pt_val (pe_callB (r := rIsi K) call_isi (by rfl) T.b_isinstance (by decide +kernel) (pa_cons (pe_fldK (K := K) (pv 0) rfl rfl) (pa_cons (pe_bltn (v := .ty "tuple") rfl T.b_tuple (by decide +kernel) rfl) pa_nil))))) (pw_or1 (pt_not (pt_val (pe_callB (r := rIsi K) call_isi (by rfl) T.b_isinstance (by decide +kernel) (pa_cons (pe_fldK (K := K) (pv 0) rfl rfl) (pa_cons (pe_bltn (v := .ty "tuple") rfl T.b_tuple (by decide +kernel) rfl) pa_nil)))))))) (pss_one (ps_ret pe_bl)) pss_nil)
      (pss_cons (ps_if (pt_not (pt_val (pe_callB (r := rAll K) (cr_all rfl) (by rfl) T.b_all (by decide +kernel) (pa_cons (pe_lc (own := [("_law_one", 2)]) (g := gName 2) (tt := tYes) rfl sc__law_same.nd (pi_tup (pe_op (r := rCatA K) op_catA (pe_fldK (K := K) (pv 0) rfl rfl) (pe_fldK (K := K) (pv 0) rfl rfl))) (blkOk_by (own := [("_law_one", 2)]) (N := ["_law_table_here", "_law_raw_here", "_law_one"]) (sc := defScope s__law_same) (by decide +kernel)) (fun _ _ _ _ _ => pg_name (i := 2) sc__law_same.nd rfl (Or.inl rfl)) (fun _ _ _ _ _ => pts_nil) (fun _ _ _ _ _ => (C8.pe_c c__law_is_count hr (by omega) rfl (pa_cons (pv 2) pa_nil)))) pa_nil)))) (pss_one (ps_ret pe_bl)) pss_nil)
      (pss_one (ps_ret (pe_and (C8.pe_c c__law_is_count hr (by omega) rfl (pa_cons (pe_fldK (K := K) (pv 0) rfl rfl) pa_nil)) (pe_one (pe_cmpR op_eq (pe_fldK (K := K) (pv 0) rfl rfl) (pe_ix (r := rIxT K) ix_tup (pv 1) pe_int (fun _ _ => rfl)) (nomark _))))))))), ?_⟩
    refine sq1 ?_
    refine ⟨_, rfl, _, _, _, _, true, rfl, .own _, .base (.ins hp T.isT.cl T.isT.ha T.isT.hn T.isT.htk T.isT.hm), kit_own _, true, rfl, ?_⟩
    refine if_f rfl ⟨_, rfl, t, CT, dx, _, _, rfl, hp, T.clT, T.t_head, tfs_head _ _ _, _, rfl, a, _, _, _, rfl, rfl, hA, rfl, _, _, (tp_ints hh).dp, th.dp, shaped_ints _, shaped_ints _, ?_⟩
    rw [eqv_self (shaped_ints _)]
    refine ⟨_, rfl, if_f rfl ?_⟩
    refine ⟨_, rfl, t, CT, dx, _, _, rfl, hp, T.clT, T.t_loop, tfs_loop _ _ _, _, rfl, a, _, _, _, rfl, rfl, hA, rfl, _, _, (tp_ints hl).dp, tl.dp, shaped_ints _, shaped_ints _, ?_⟩
    rw [eqv_self (shaped_ints _)]
    refine ⟨_, rfl, if_f rfl ?_⟩
    unfold tNext
    try dsimp only
    try refine sq1 ?_
    refine ⟨_, rfl, t, CT, dx, _, _, rfl, hp, T.clT, T.t_head, tfs_head _ _ _, _, _, _, _, true, rfl, .ty _, tyx_t hh, kit_ty (by decide +kernel), true, rfl, if_f rfl ?_⟩
    refine ⟨_, rfl, t, CT, dx, _, _, rfl, hp, T.clT, T.t_loop, tfs_loop _ _ _, _, _, _, _, true, rfl, .ty _, tyx_t hl, kit_ty (by decide +kernel), true, rfl, if_f rfl ?_⟩
    try dsimp only
    try refine sq1 ?_
    refine if1 ?_
    have hall : ∀ z ∈ h ++ l, (0 : Int) ≤ z := fun z hz => by
      rcases List.mem_append.mp hz with hz | hz
      · unfold cnt at ch; rw [List.all_eq_true] at ch; exact of_decide_eq_true (ch z hz)
      · unfold cnt at cl; rw [List.all_eq_true] at cl; exact of_decide_eq_true (cl z hz)
    have fin : ∀ H1, Ex H H1 → (tRet (tAndV (tCall spCount [] C8.E0 (tCons (tFld K (tVar 0) "rise") tNil)) (tOp rEq (tFld K (tVar 0) "rise") (tOp (rIxT K) (tVar 1) (tC (.int 2)))))) { nx := fun x H' => Q V.non H', rt := Q } [some (.ref t), some (.ref a), none] H1 := by
      intro H1 e1
      have hp1 := e1 _ _ hp
      refine rt1 ⟨_, rfl, t, CT, dx, _, _, rfl, hp1, T.clT, T.t_rise, tfs_rise _ _ _, r, rfl, ?_⟩
      rw [decide_eq_true r0]
      refine ⟨true, rfl, iteT ?_⟩
      refine ⟨_, rfl, t, CT, dx, _, _, rfl, hp1, T.clT, T.t_rise, tfs_rise _ _ _, _, rfl, a, _, _, _, rfl, rfl, Evl.ex_t e1 hA, rfl, rfl, ?_⟩
      rw [dInt, decide_eq_true rfl]
      exact q _ e1
    refine tb1 (cb1 (lc_lb (j := 2) ?_))
    refine ⟨_, rfl, t, CT, dx, _, _, rfl, hp, T.clT, T.t_head, tfs_head _ _ _, _, rfl, t, CT, dx, _, _, rfl, hp, T.clT, T.t_loop, tfs_loop _ _ _, catA_of hh hl (Evl.sz_of (by rw [List.length_map, List.length_map]; omega)) fun p H1 e1 hp1 => ⟨p, rfl, ⟨_, hp1⟩, ?_⟩⟩
    rw [← List.map_append] at hp1
    refine lc_map (wk_tup (xs := (h ++ l).map V.int)) (fun (i : Nat) y H => y = .bl true) (fun _ _ e g => Evl.ex_t e g) (fun _ _ _ _ _ r => r) hp1 (by rw [List.length_map, List.length_append]; omega) (fun i x H' Q' hi hx e' kk => ?_)
      (fun D ys H2 hl2 _ e2 hD hr2 => all_true (n := 0) (fun H3 e3 => ⟨true, rfl, if_f rfl (fin H3 (e1.trans e3))⟩) D ys e2 hD hr2)
    obtain ⟨z, hz, rfl⟩ := get_map hx
    refine ⟨_, rfl, z, rfl, ?_⟩
    rw [decide_eq_true (hall z (List.mem_of_getElem? hz))]
    exact kk _ _ Ex.r rfl
def spOn (K : PySem.W.Frag) : Sp := fun vs H Q _ => ∃ (a ac a0 a1 : Addr) (vn vb vw : V) (m : Mkr) (k c : Nat), vs = [.ref a, .int (k : Int), .ref ac] ∧ SqT K H a [vn, vb, vw] ∧ Tp K H vb (deedsD m.begin_) ∧ Tp K H vw (.tuple [deedsD m.way]) ∧ SqT K H ac [.ref a0, .ref a1] ∧ SqT K H a0 (zeros 0) ∧ SqT K H a1 (zeros c) ∧ c ≤ 2 ∧
  m.begin_.length ≤ 600 ∧ m.way.length ≤ 600 ∧ ∀ (b : Raw) (v' : V) (H' : Hp), Ex H H' → Plain (needRaw m k c) b → Tp K H' v' (rawD b) → Q v' H'
abbrev s__law_on : Stmt := top 82
theorem sc__law_on : FnScope ["_law_maker", "_law_inlet", "_law_course", "_law_deeds", "_law_number", "_law_head", "_law_taken", "_law_again", "_law_loop", "_law_rise", "_law_more"] ["_law_maker", "_law_inlet", "_law_course"] (defScope s__law_on) := ⟨rfl, rfl, rfl, by decide +kernel, rfl, by decide +kernel, by decide +kernel⟩
theorem ok_law_on {f : Addr} {fd : FuncData} (F : Fun K "_law_on" "_law_on" s__law_on f fd) (T : Txt K mg CT CM) (c__law_ahead : C8.Cal P w K mg base 1 "_law_ahead" (spTakes K) []) (c__law_plain : C8.Cal P w K mg base 1 "_law_plain" (spLPlain K) []) : FnOk P w K mg base CX0 2 f fd ["_law_maker", "_law_inlet", "_law_course"] (spOn K) := by
  refine F.ok sc__law_on (fun vs H Q E h => ?_) (fun cdv A outer s H vs Q E hr h => ?_)
  · obtain ⟨_, _, _, _, _, _, _, _, _, _, rfl, _⟩ := h
    rfl
  · obtain ⟨am, a, a0, a1, vn, vb, vw, m, k, c, rfl, hM, tb, tw, hA, h0, h1, hc, zb, zw, q⟩ := h
    obtain ⟨ab, rfl, hB⟩ := tb.deeds
    obtain ⟨aw, bw, rfl, hW, hw⟩ := tw.way
    have mz : (zeros c).length = c := List.length_replicate
    have mb : (m.begin_.map dv).length = m.begin_.length := List.length_map _
    have mw : (m.way.map dv).length = m.way.length := List.length_map _
    refine ⟨_, (pss_cons (ps_set (i := 3) sc__law_on.nd rfl (Or.inl rfl) (pe_callTy (r := Evl.rListS K) call_list_of (by rfl) T.b_list (by decide +kernel) (pa_cons (pe_ix (r := rIxT K) ix_tup (pv 0) pe_int (fun _ _ => rfl)) pa_nil)))
      (pss_cons (ps_for PassesOwn.never rfl (pi_tup (pe_ix (r := rIxT K) ix_tup (pv 2) pe_int (fun _ _ => rfl))) (pg_name (i := 4) sc__law_on.nd rfl (Or.inl rfl)) (pss_one (ps_set (i := 3) sc__law_on.nd rfl (Or.inl rfl) (pe_op op_cat (pv 3) (pe_callTy (r := Evl.rListS K) call_list_of (by rfl) T.b_list (by decide +kernel) (pa_cons (pe_ix (r := rIxT K) ix_tup (pe_ix (r := rIxT K) ix_tup (pv 0) pe_int (fun _ _ => rfl)) (pv 4) (fun _ _ => rfl)) pa_nil))))))
      (pss_cons (ps_asg (C8.pe_c c__law_ahead hr (by omega) rfl (pa_cons (pv 3) (pa_cons (pv 1) pa_nil))) (pg_tup rfl (pgs_cons (pg_name (i := 5) sc__law_on.nd rfl (Or.inl rfl)) (pgs_cons (pg_name (i := 6) sc__law_on.nd rfl (Or.inr rfl)) pgs_nil))))
      (pss_cons (ps_set (i := 7) sc__law_on.nd rfl (Or.inl rfl) (pe_lst pa_nil))
      (pss_cons (ps_for PassesOwn.never rfl (pi_tup (pe_ix (r := rIxT K) ix_tup (pv 2) pe_int (fun _ _ => rfl))) (pg_name (i := 4) sc__law_on.nd rfl (Or.inl rfl)) (pss_one (ps_set (i := 7) sc__law_on.nd rfl (Or.inl rfl) (pe_op op_cat (pv 7) (pe_callTy (r := Evl.rListS K) call_list_of (by rfl) T.b_list (by decide +kernel) (pa_cons (pe_ix (r := rIxT K) ix_tup (pe_ix (r := rIxT K) ix_tup (pv 0) pe_int (fun _ _ => rfl)) (pv 4) (fun _ _ => rfl)) pa_nil))))))
      (pss_cons (ps_asg (C8.pe_c c__law_ahead hr (by omega) rfl (pa_cons (pv 7) (pa_cons (pv 1) pa_nil))) (pg_tup rfl (pgs_cons (pg_name (i := 8) sc__law_on.nd rfl (Or.inl rfl)) (pgs_cons (pg_name (i := 9) sc__law_on.nd rfl (Or.inl rfl)) pgs_nil))))
      (pss_one (ps_ret (C8.pe_c c__law_plain hr (by omega) rfl (pa_cons (pv 5) (pa_cons (pe_lc (own := [("_law_more", 10)]) (g := gName 10) (tt := tYes) rfl sc__law_on.nd (pi_list (pv 8)) (blkOk_by (own := [("_law_more", 10)]) (N := ["_law_maker", "_law_inlet", "_law_course", "_law_deeds", "_law_number", "_law_head", "_law_taken", "_law_again", "_law_loop", "_law_rise", "_law_more"]) (sc := defScope s__law_on) (by decide +kernel)) (fun _ _ _ _ _ => pg_name (i := 10) sc__law_on.nd rfl (Or.inl rfl)) (fun _ _ _ _ _ => pts_nil) (fun _ _ _ _ _ => (pe_op op_add (pv 6) (pv 10)))) (pa_cons (pe_ifExp (pt_cmpR op_gt (pe_callB (r := Evl.rLenS K) call_len_seq (by rfl) T.b_len PySem.boot_len (pa_cons (pv 8) pa_nil)) pe_int (nomark _)) (pv 9) pe_int) pa_nil)))))))))))), ?_⟩
    refine sq1 (as1 (cb1 ⟨_, rfl, am, _, _, _, rfl, rfl, hM, rfl, listOf_A (.inr hB) fun l H1 e1 hl1 => ?_⟩))
    try dsimp only
    refine sq1 (fr_fb ?_)
    refine ⟨_, rfl, a, _, _, _, rfl, rfl, Evl.ex_t e1 hA, rfl, a0, rfl, ⟨_, Evl.ex_t e1 h0⟩, fb_go (wk_tup (xs := zeros 0)) (fun i σ' H' => σ' = [some (.ref am), some (.int (k : Int)), some (.ref a), some (.ref l), none, none, none, none, none, none, none] ∧ H' = H1) ⟨rfl, rfl⟩
      (fun i σ' H' _ ⟨_, e⟩ => by rw [e]; exact Evl.ex_t e1 h0) (fun i x σ' H' hi => by cases hi) ?_⟩
    rintro σ' H' ⟨rfl, rfl⟩
    try dsimp only
    refine sq1 ?_
    refine ⟨_, rfl, _, rfl, l, m.begin_, k, rfl, hl1, by omega, fun pt lt H2 e2 ht hlt => ?_⟩
    refine ⟨pt, _, rfl, sq_t ht, rfl, _, _, rfl, _, _, rfl, rfl, ?_⟩
    try dsimp only
    refine sq1 ⟨Nat.zero_le _, fun l2 hl2 => ?_⟩
    have e3 : Ex H2 (upd H2 l2 (.lst [])) := Evl.Ex.new hl2
    have hl3 : upd H2 l2 (.lst []) l2 = some (.lst (([] : List (Option Nat)).map dv)) := upd_same
    generalize upd H2 l2 (.lst []) = H3 at *
    have E3 := e1.trans (e2.trans e3)
    refine gn1 ?_
    try dsimp only
    refine sq1 (fr_fb ?_)
    refine ⟨_, rfl, a, _, _, _, rfl, rfl, Evl.ex_t E3 hA, rfl, a1, rfl, ⟨_, Evl.ex_t E3 h1⟩, fb_go (wk_tup (xs := zeros c)) (fun i σ' H' => ∃ (n0 : Option V) (l' : Addr), σ' = [some (.ref am), some (.int (k : Int)), some (.ref a), some (.ref l), n0, some (.ref lt), some (.int (ahead k m.begin_ 0).2), some (.ref l'), none, none, none] ∧ Ex H3 H' ∧ H' l' = some (.lst ((rep i m.way).map dv))) ⟨none, l2, rfl, Ex.r, hl3⟩
      (fun i σ' H' _ ⟨_, _, _, e, _⟩ => Evl.ex_t (E3.trans e) h1) ?_ ?_⟩
    · rintro i x σ' H' hi hx ⟨n0, l', rfl, e4, hl'⟩
      have ex := zeros_get hx
      subst ex
      rw [mz] at hi
      have E4 := E3.trans e4
      refine gn1 ?_
      refine as1 (op1 ?_)
      refine ⟨_, rfl, cb1 ?_⟩
      refine ⟨_, rfl, am, _, _, _, rfl, rfl, Evl.ex_t E4 hM, rfl, _, rfl, aw, _, _, _, rfl, rfl, Evl.ex_t E4 hW, rfl, listOf_A (.inr (Evl.ex_t E4 hw)) fun l4 H5 e5 hl5 => ?_⟩
      refine ⟨l', l4, _, _, rfl, rfl, e5 _ _ hl', hl5, ?_, fun p6 hp6 => ?_⟩
      · rw [List.length_map, rep_len, mw]
        have : i * m.way.length ≤ 2 * 600 := Nat.mul_le_mul (by omega) zw
        exact Evl.sz_of (by omega)
      · refine ⟨_, p6, rfl, e4.trans (e5.trans (Evl.Ex.new hp6)), ?_⟩
        rw [upd_same, rep_succ, List.map_append]
    · rintro σ' H4 ⟨n0, l', rfl, e4, hl'⟩
      rw [mz] at hl'
      have E4 := E3.trans e4
      try dsimp only
      refine sq1 ?_
      refine ⟨_, rfl, _, rfl, l', rep c m.way, k, rfl, hl', ?_, fun pt2 lt2 H5 e5 ht2 hlt2 => ?_⟩
      · rw [rep_len]
        have : c * m.way.length ≤ 2 * 600 := Nat.mul_le_mul hc zw
        omega
      refine ⟨pt2, _, rfl, sq_t ht2, rfl, _, _, rfl, _, _, rfl, rfl, ?_⟩
      have hlt5 := e5 _ _ (e4 _ _ (e3 _ _ hlt))
      have E5 := E4.trans e5
      have hla := ahead_len k m.begin_ 0
      have hlb := ahead_len k (rep c m.way) 0
      have hlc : (rep c m.way).length ≤ 1200 := by
        rw [rep_len]
        have : c * m.way.length ≤ 2 * 600 := Nat.mul_le_mul hc zw
        omega
      have hml : ((ahead k (rep c m.way) 0).1.map V.int).length = (ahead k (rep c m.way) 0).1.length := List.length_map _
      try dsimp only
      refine rt1 ⟨_, rfl, ?_⟩
      refine cs1 (lc_lb (j := 10) ?_)
      refine ⟨_, rfl, lt2, rfl, ⟨_, sq_l hlt2⟩, lc_map wk_list (fun (i : Nat) y H => ∃ z, (ahead k (rep c m.way) 0).1[i]? = some z ∧ y = .int ((ahead k m.begin_ 0).2 + z)) (fun _ _ e g => Evl.ex_l e g) (fun _ _ _ _ _ r => r) (sq_l hlt2) (by rw [hml]; omega) (fun i x H' Q' hi hx e' kk => ?_) ?_⟩
      · obtain ⟨z, hz, rfl⟩ := get_map hx
        exact ⟨_, rfl, _, rfl, _, _, rfl, rfl, kk _ _ Ex.r ⟨z, hz, rfl⟩⟩
      · refine fun D ys H6 hl6 hDn e6 hD hr' => ?_
        have ey : ys = ((ahead k (rep c m.way) 0).1.map fun z => (ahead k m.begin_ 0).2 + z).map V.int := by
          rw [List.map_map]
          exact map_of (f := V.int ∘ fun z => (ahead k m.begin_ 0).2 + z) (by rw [hl6, hml]) fun i y hy => hr' i y hy
        rw [ey] at hD
        refine ⟨_, rfl, lt2, _, rfl, .inl (sq_l (e6 _ _ hlt2)), _, _, rfl, rfl, _, rfl, ?_⟩
        by_cases c0 : (ahead k (rep c m.way) 0).1 = []
        · have ex : needRaw m k c = ((ahead k m.begin_ 0).1, [], 0) := by
            unfold needRaw
            try dsimp only
            rw [if_pos c0]
          refine if_f (decide_eq_false (by rw [hml, c0]; decide)) ?_
          rw [c0] at hD
          refine ⟨lt, D, (ahead k m.begin_ 0).1, [], 0, rfl, .inl ⟨sq_l (e6 _ _ hlt5), sq_l hD⟩, by omega, by show 0 ≤ 10000; decide, fun b v' H' e' hb ht => ?_⟩
          rw [← ex] at hb
          exact q b v' H' (E5.trans (e6.trans e')) hb ht
        · have ex : needRaw m k c = ((ahead k m.begin_ 0).1, (ahead k (rep c m.way) 0).1.map (fun z => (ahead k m.begin_ 0).2 + z), (ahead k (rep c m.way) 0).2) := by
            unfold needRaw
            try dsimp only
            rw [if_neg c0]
          have hpos : 0 < (ahead k (rep c m.way) 0).1.length := Nat.pos_of_ne_zero fun z => c0 (List.eq_nil_of_length_eq_zero z)
          refine if_t (decide_eq_true (by rw [hml]; omega)) ⟨_, rfl, ?_⟩
          refine ⟨lt, D, (ahead k m.begin_ 0).1, _, _, rfl, .inl ⟨sq_l (e6 _ _ hlt5), sq_l hD⟩, by omega, by rw [List.length_map]; omega, fun b v' H' e' hb ht => ?_⟩
          rw [← ex] at hb
          exact q b v' H' (E5.trans (e6.trans e')) hb ht
end
end K28
end
section
set_option Elab.async false
set_option linter.all false
set_option maxRecDepth 100000
set_option maxHeartbeats 4000000
namespace K28
open PySem PySem.Spec PyProof.Rows L2
open Evl (Ex)
section
variable {P : Program} {w : World} {K : PySem.W.Frag} {mg : Str → Option Value} {base : Heap} {CT CM CB CF : Addr}
theorem exNum_mono {n : Int} {H : Hp} {E E' : XK} (he : ∀ c d H, E c d H → E' c d H) (h : exNum CB n H E) : exNum CB n H E' := fun H' d e hd => he _ _ _ (h H' d e hd)
theorem spMk_mono {vs : List V} {H : Hp} {Q Q' : VK} {E E' : XK} (hq : ∀ v H, Q v H → Q' v H) (he : ∀ c d H, E c d H → E' c d H) (h : spMk K CT CM CB CF vs H Q E) : spMk K CT CM CB CF vs H Q' E' := by
  obtain ⟨x, rfl, h⟩ := h
  refine ⟨x, rfl, ?_⟩
  rcases h with ⟨T, b, h1, h2, h3, h4⟩ | ⟨a, ys, h1, h2, h3, h4, h5, h⟩
  · exact .inl ⟨T, b, h1, h2, h3, exNum_mono he h4⟩
  · refine .inr ⟨a, ys, h1, h2, h3, h4, h5, ?_⟩
    rcases h with ⟨k, y, T, g1, g2, g3, g4, g5⟩ | ⟨ts, bs, g1, g2, h⟩
    · exact .inl ⟨k, y, T, g1, g2, g3, g4, exNum_mono he g5⟩
    · refine .inr ⟨ts, bs, g1, g2, ?_⟩
      rcases h with ⟨k1, k2⟩ | ⟨mx, k1, k2⟩ | ⟨v, r, k1, k2, k3, k4⟩
      · exact .inl ⟨k1, exNum_mono he k2⟩
      · exact .inr (.inl ⟨mx, k1, fun H' p e m => hq _ _ (k2 H' p e m)⟩)
      · exact .inr (.inr ⟨v, r, k1, k2, k3, fun H' d e hd => he _ _ _ (k4 H' d e hd)⟩)
/-- what an exception of maker_of is told as -/
def toldX (CB CF : Addr) (Q : VK) : XK := fun cls d H' => (∃ dd n, cls = .ref CB ∧ d = some dd ∧ H' dd = some (.xd [("number", .int n)]) ∧ Q (.int n) H') ∨ (∃ dd, cls = .ref CF ∧ d = some dd ∧ H' dd = some (.xd [("word", .str "deed")]) ∧ Q (.str "many") H')
def spSeen (K : PySem.W.Frag) (CT CM CB CF : Addr) : Sp := fun vs H Q _ => spMk K CT CM CB CF vs H (fun _ H' => Q .non H') (toldX CB CF Q)
abbrev s__law_seen : Stmt := top 85
theorem sc__law_seen : FnScope ["_law_tables_here", "error"] ["_law_tables_here"] (defScope s__law_seen) := ⟨rfl, rfl, rfl, by decide +kernel, rfl, by decide +kernel, by decide +kernel⟩
theorem ok_law_seen {f : Addr} {fd : FuncData} (F : Fun K "_law_seen" "_law_seen" s__law_seen f fd) (T : Txt K mg CT CM) (x_maker_of : CalX P w K mg base 8 "maker_of" (spMk K CT CM CB CF)) (xc_BadTables : Exc P w K mg "BadTables" CB "number" numV) (xc_TooMany : Exc P w K mg "TooMany" CF "word" wordV)
    (xf_number : EFld K CB "number") (xf_word : EFld K CF "word") (hBB : PySem.W.exmOne K (.ref CB) (.ref CB) = some true) (hFB : PySem.W.exmOne K (.ref CF) (.ref CB) = some false) (hFF : PySem.W.exmOne K (.ref CF) (.ref CF) = some true) : FnOk P w K mg base CX0 10 f fd ["_law_tables_here"] (spSeen K CT CM CB CF) := by
  refine F.ok sc__law_seen (fun vs H Q E h => ?_) (fun cdv A outer s H vs Q E hr h => ?_)
  · obtain ⟨_, rfl, _⟩ := h
    rfl
  · have hh := h
    obtain ⟨x, rfl, _⟩ := hh
    refine ⟨_, (pss_one (K28.ps_try_some (tb := (fun W => tSeq (tDrop (tCallS (spMk K CT CM CB CF) (WE W) (tCons (tVar 0) tNil))) (tRet (tC .non)))) (Wout := (fun _ _ _ _ => False)) rfl rfl sc__law_seen.nd takes0 (fun W pn xe tk po => (pss_cons (ps_expr (K28.pe_cx x_maker_of hr (by omega) rfl (fun σ => passAt tk σ) (pa_cons (pv 0) pa_nil)))
      (pss_one (ps_ret pe_non)))) (HdsAs.cons (i := 1) rfl rfl ⟨rfl, by decide, Or.inl xc_BadTables.g⟩ (fun a oe cls d pn hz hf => (pss_one (ps_ret (K28.pe_fldE xf_number hz hf (pv 1))))) (HdsAs.cons (i := 1) rfl rfl ⟨rfl, by decide, Or.inl xc_TooMany.g⟩ (fun a oe cls d pn hz hf => (pss_one (ps_ret (pe_ifExp (pt_cmpR op_eq (K28.pe_fldE xf_word hz hf (pv 1)) pe_str (nomark _)) pe_str pe_str)))) HdsAs.nil)))), ?_⟩
    refine sq1 ⟨_, rfl, ?_⟩
    unfold tNil
    dsimp only
    refine spMk_mono (fun v H' q => ?_) (fun c d H' e => ?_) h
    · exact q
    · rcases e with ⟨dd, n, rfl, rfl, hd, q⟩ | ⟨dd, rfl, rfl, hd, q⟩
      · refine ⟨true, hBB, fun _ a0 _ => ?_, fun z => by cases z⟩
        exact ⟨_, rfl, rfl, rfl, dd, _, rfl, hd, q⟩
      · refine ⟨false, hFB, fun z => (by cases z), fun _ => ⟨true, hFF, fun _ a0 _ => ?_, fun z => by cases z⟩⟩
        refine ⟨_, rfl, rfl, rfl, dd, _, rfl, hd, rfl, _, rfl, if_t (by decide) ?_⟩
        exact q
end
end K28
end
section
set_option Elab.async false
set_option linter.all false
set_option maxRecDepth 100000
set_option maxHeartbeats 4000000
namespace K28
open PySem PySem.Spec PyProof.Rows L2
open Evl (Ex)
/-- a plain form that can be compared -/
structure Tidy (b : Raw) : Prop where
  c1 : cnt b.1 = true
  c2 : cnt b.2.1 = true
  r0 : 0 ≤ b.2.2
  h1 : b.1.length ≤ 10000
  h2 : b.2.1.length ≤ 10000
theorem Goes.tidy {x b : Raw} (s : Steady x) (g : Goes x b) : Tidy b := by
  have h4 := s.h4
  have l4 := s.l4
  have hl := g.hl
  have hd := Nat.le_of_dvd s.l1 g.dv
  refine ⟨cnt_of fun i hi => ?_, cnt_of fun i hi => ?_, g.sz.2.2.1, by omega, by omega⟩
  · have := g.pos i
    unfold vb at this
    rw [val_lt hi] at this
    exact this
  · have := g.pos (b.1.length + i)
    unfold vb at this
    rw [val_loop hi] at this
    exact this
theorem Ended.plain {u : Nat} {x b : Raw} (e : Ended u x) (p : Plain x b) : b = x := by
  unfold Plain at p
  rw [if_pos e.nl] at p
  rw [p]
  exact e.eta.symm
theorem Ended.tidy {u : Nat} {x : Raw} (e : Ended u x) (h : u ≤ 100) : Tidy x := by
  have h1 := e.len
  have h2 := e.nl
  exact ⟨e.cn, by rw [h2]; rfl, by rw [e.r0]; exact Int.le_refl 0, by omega, by rw [h2]; show 0 ≤ 10000; decide⟩
theorem Ended.good {u : Nat} {x : Raw} (e : Ended u x) : Good x.1 x.2.1 x.2.2 := by
  rw [e.nl, e.r0]
  exact ⟨e.cn, e.ri, rfl, rfl, fun _ z => absurd rfl z, Int.le_refl 0, fun _ => rfl, fun z => absurd rfl z⟩
theorem Steady.sz {x : Raw} (s : Steady x) : SzR x := by
  have h4 := s.h4
  have l4 := s.l4
  have r1 := s.r10
  exact ⟨by omega, by omega, s.good.r0, by omega⟩
theorem Ended.sz {u : Nat} {x : Raw} (e : Ended u x) (h : u ≤ 100) : SzR x := by
  have h1 := e.len
  have h2 := e.nl
  exact ⟨by omega, by rw [h2]; show 0 ≤ 100000; decide, by rw [e.r0]; exact Int.le_refl 0, by rw [e.r0]; decide⟩
theorem LR.good {xs : List Raw} (h : LR xs) {x : Raw} (hx : x ∈ xs) : Good x.1 x.2.1 x.2.2 ∧ SzR x := by
  rcases h.2.2 with h | ⟨u, hu, h⟩
  · exact ⟨(h x hx).good, (h x hx).sz⟩
  · exact ⟨(h x hx).good, (h x hx).sz (by omega)⟩
theorem LR.small {xs : List Raw} (h : LR xs) {x : Raw} (hx : x ∈ xs) : x.1.length ≤ 10000 ∧ x.2.1.length ≤ 10000 := by
  rcases h.2.2 with h | ⟨u, hu, h⟩
  · have a := (h x hx).h4
    have b := (h x hx).l4
    exact ⟨by omega, by omega⟩
  · have a := (h x hx).len
    have b := (h x hx).nl
    exact ⟨by omega, by rw [b]; show 0 ≤ 10000; decide⟩
/-- tables and what a maker of them needs -/
structure Fine (bs : List Raw) (mx : Nat) : Prop where
  fit : Fit bs mx
  n1 : 1 ≤ bs.length
  n3 : bs.length ≤ 3
  tidy : ∀ b ∈ bs, Tidy b
  zb : (mkrOf bs mx).begin_.length ≤ 600
  zw : (mkrOf bs mx).way.length ≤ 600
  need : ∀ (k c : Nat) (b : Raw), bs[k]? = some b → 1 ≤ c → c ≤ 2 → Good (needRaw (mkrOf bs mx) k c).1 (needRaw (mkrOf bs mx) k c).2.1 (needRaw (mkrOf bs mx) k c).2.2 ∧ SzR (needRaw (mkrOf bs mx) k c) ∧ ∀ b', Plain (needRaw (mkrOf bs mx) k c) b' → b' = b
theorem law_math {xs bs : List Raw} (hl : LR xs) (hlen : bs.length = xs.length) (hP : ∀ (i : Nat) b x, bs[i]? = some b → xs[i]? = some x → Plain x b) : ∃ mx, Fine bs mx := by
  have hx : ∀ b ∈ bs, ∃ x ∈ xs, Plain x b := fun b hb => by
    obtain ⟨i, hi, rfl⟩ := List.getElem_of_mem hb
    have hi2 : i < xs.length := by omega
    exact ⟨xs[i], List.getElem_mem hi2, hP i _ _ (by simp [hi]) (by simp [hi2])⟩
  have l1 := hl.1
  have l3 := hl.2.1
  rcases hl.2.2 with h | ⟨u, hu, h⟩
  · have hB : ∀ b ∈ bs, ∃ x, Steady x ∧ Goes x b := fun b hb => by
      obtain ⟨x, hx, p⟩ := hx b hb
      exact ⟨x, h x hx, (h x hx).goes p⟩
    obtain ⟨mx, ft, m4, ends, p0, p12, hdv, hmx⟩ := fit_steady (by omega) (by omega) hB
    refine ⟨mx, ft, by omega, by omega, fun b hb => ?_, ft.z1, ?_, fun k c b hb c1 c2 => need_steady hB hb ends m4 p0 p12 (hdv b (List.mem_of_getElem? hb)) (hmx b (List.mem_of_getElem? hb)) c1 c2⟩
    · obtain ⟨x, s, g⟩ := hB b hb
      exact g.tidy s
    · unfold mkrOf
      rw [ends]
      exact ft.z2 ends
  · have hB : ∀ b ∈ bs, Ended u b := fun b hb => by
      obtain ⟨x, hx, p⟩ := hx b hb
      rw [(h x hx).plain p]
      exact h x hx
    obtain ⟨ft, ends⟩ := fit_ended (u := u) (by omega) (by omega) (by omega) hB
    refine ⟨u, ft, by omega, by omega, fun b hb => (hB b hb).tidy (by omega), ft.z1, ?_, fun k c b hb c1 c2 => need_ended (by omega) hB hb ends⟩
    unfold mkrOf
    rw [ends]
    show 1 ≤ 600
    decide
/-! the law's other tables -/
theorem plain_end {h : List Int} {b : Raw} (p : Plain (h, [], 0) b) : b = (h, [], 0) := by
  unfold Plain at p
  rw [if_pos rfl] at p
  exact p
theorem plain_one {v r : Int} {b : Raw} (p : Plain (([] : List Int), [v], r) b) : b = ([], [v], r) := by
  unfold Plain at p
  rw [if_neg (by simp)] at p
  have c : Canon (val [] [v] r) [] [v] r := ⟨Nat.one_pos, fun _ => rfl, fun m m0 m1 => absurd m1 (by simp; omega), fun k hk => by simp at hk⟩
  obtain ⟨a1, a2, a3⟩ := p.unique c
  obtain ⟨u1, u2, u3⟩ := b
  dsimp only at a1 a2 a3
  rw [a1, a2, a3]
theorem good_one {v r : Int} (h : 0 ≤ v) (hr : 0 ≤ r) : Good ([] : List Int) [v] r :=
  ⟨rfl, rfl, by unfold cnt; simp [h], rfl, fun z => absurd rfl z, hr, (fun z => by cases z), fun _ => by show v ≤ v + r; omega⟩
theorem fit_two {a b : Raw} (u : Nat) (hu : u ≤ 10) (ha : Ended u a) (hb : Ended u b) : Fit [a, b] u := (fit_ended (bs := [a, b]) (u := u) (show 0 < 2 by decide) (show 2 ≤ 3 by decide) hu fun x hx => by
  rcases List.mem_cons.mp hx with rfl | hx
  · exact ha
  · rw [List.mem_singleton.mp hx]; exact hb).1
theorem ended01 : Ended 2 (([0, 1] : List Int), [], 0) := ⟨rfl, rfl, rfl, by decide, by decide, fun i => by
  match i with
  | 0 => decide
  | 1 => decide
  | n + 2 => show (([0, 1] : List Int).getD (n + 2) 0) ≤ 100; simp⟩
theorem fit_597 : Fit [(([] : List Int), [597], 1)] 0 := by
  have e : endsB [(([] : List Int), [597], 1)] = false := rfl
  have s : startN [(([] : List Int), [597], 1)] 0 = 1 := rfl
  have m : manyP [(([] : List Int), [597], 1)] = 1 := rfl
  refine ⟨fun b hb => ?_, fun b hb => ?_, ⟨_, List.mem_cons_self, rfl⟩, fun b hb => ?_, by decide, fun n hn b hb => ?_, by decide +kernel, fun _ => by decide +kernel, fun _ i hi => ?_⟩
  · rw [List.mem_singleton.mp hb]; rfl
  · rw [List.mem_singleton.mp hb]
    exact ⟨by decide, by decide, by decide, by decide⟩
  · rw [List.mem_singleton.mp hb]; exact Nat.le_refl _
  · rw [List.mem_singleton.mp hb]
    refine ⟨.inl (by simp), ?_⟩
    rw [e, s, m] at hn
    have hn2 : n < 2 := by simpa using hn
    have : n = 0 ∨ n = 1 := by omega
    rcases this with rfl | rfl <;> decide
  · have : i = 0 ∨ i = 1 := by
      have : i ≤ 1 := hi
      omega
    rcases this with rfl | rfl
    · decide
    · decide
end K28
end
section
set_option Elab.async false
set_option linter.all false
set_option maxRecDepth 100000
set_option maxHeartbeats 4000000
namespace K28
open PySem PySem.Spec PyProof.Rows L2
open Evl (Ex)
structure OwnEqT (P : Program) (w : World) (K : PySem.W.Frag) (mg : Str → Option Value) (base : Heap) (CT : Addr) : Prop where
  ex : ∃ (f : Addr) (fd : FuncData) (ps : List Str), FnOk P w K mg base CX0 1 f fd ps (spEq (RTab K CT)) ∧ PySem.W.findIn K (.ref CT) "__eq__" = some (some (.ref f)) ∧ PySem.W.isFn K (.ref f) = true ∧ Binds K fd ps []
theorem op_eqT {X : Cx} {j : Nat} {CT : Addr} (o : OwnEqT X.prog X.w X.K X.mg X.base CT) (hr : Room j X.A) (hk : 1 ≤ j) : OpR X (compareOp .Eq) (rEqG (DIns CT (RTab X.K CT))) := by
  obtain ⟨f, fd, ps, F, h1, h2, b⟩ := o.ex
  exact op_eqG (rcG_ins F h1 h2 b (E := fun _ _ _ => False) pass0) (hr.mono hk)
section
variable {P : Program} {w : World} {K : PySem.W.Frag} {mg : Str → Option Value} {base : Heap} {CT CM CB CF : Addr}
/-! what maker_of raises, told -/
theorem seen_num {H : Hp} {Q : VK} {n : Int} (q : ∀ H', Ex H H' → Q (.int n) H') : exNum CB n H (toldX CB CF Q) := fun H' d e hd => .inl ⟨d, n, rfl, rfl, upd_same, q _ (e.trans (Evl.Ex.new hd))⟩
theorem seen_none {H : Hp} {Q : VK} {E : XK} (q : ∀ H', Ex H H' → Q (.int (-1)) H') : spSeen K CT CM CB CF [.non] H Q E :=
  ⟨.non, rfl, .inl ⟨"NoneType", false, .base .non, ka_none, .inl rfl, seen_num q⟩⟩
theorem seen_len {H : Hp} {Q : VK} {E : XK} {a : Addr} {ys : List V} (h : SqA K H a ys) (hn : ¬ (1 ≤ ys.length ∧ ys.length ≤ 3)) (q : ∀ H', Ex H H' → Q (.int (-1)) H') : spSeen K CT CM CB CF [.ref a] H Q E := by
  obtain ⟨t, ty, hk⟩ := h.ty
  exact ⟨.ref a, rfl, .inl ⟨t, true, ty, hk, .inr ⟨a, ys, rfl, h, hn⟩, seen_num q⟩⟩
theorem seen_bad {H : Hp} {Q : VK} {E : XK} {a : Addr} {ys : List V} {k : Nat} {y : V} {T : String} (h : H a = some (.lst ys)) (l1 : 1 ≤ ys.length) (l3 : ys.length ≤ 3) (hk : ys[k]? = some y) (ty : TyX K H y (.type T)) (ky : PySem.W.kitOne K (.type T) (.ref CT) = some false)
    (hb : ∀ j, j < k → ∃ t b, ys[j]? = some (.ref t) ∧ TabAt K CT H t b) (q : ∀ H', Ex H H' → Q (.int (k : Int)) H') : spSeen K CT CM CB CF [.ref a] H Q E :=
  ⟨.ref a, rfl, .inr ⟨a, ys, rfl, .inl (sq_l h), ⟨_, h⟩, l1, l3, .inl ⟨k, y, T, hk, ty, ky, hb, seen_num q⟩⟩⟩
theorem seen_unlike {H : Hp} {Q : VK} {E : XK} {a : Addr} {ts : List Addr} {bs : List Raw} (h : H a = some (.lst (ts.map V.ref))) (hT : TabsAt K CT H ts bs) (l1 : 1 ≤ bs.length) (l3 : bs.length ≤ 3) (hne : ∃ b ∈ bs, endOf b ≠ endOf (bs.getD 0 ([], [], 0)))
    (q : ∀ H', Ex H H' → Q (.int (-1)) H') : spSeen K CT CM CB CF [.ref a] H Q E :=
  ⟨.ref a, rfl, .inr ⟨a, _, rfl, .inl (sq_l h), ⟨_, h⟩, by rw [List.length_map, hT.1]; exact l1, by rw [List.length_map, hT.1]; exact l3, .inr ⟨ts, bs, rfl, hT, .inl ⟨hne, seen_num q⟩⟩⟩⟩
theorem seen_fit {H : Hp} {Q : VK} {E : XK} {a : Addr} {ts : List Addr} {bs : List Raw} {mx : Nat} (h : H a = some (.lst (ts.map V.ref))) (hT : TabsAt K CT H ts bs) (l1 : 1 ≤ bs.length) (l3 : bs.length ≤ 3) (ft : Fit bs mx)
    (q : ∀ H', Ex H H' → Q .non H') : spSeen K CT CM CB CF [.ref a] H Q E :=
  ⟨.ref a, rfl, .inr ⟨a, _, rfl, .inl (sq_l h), ⟨_, h⟩, by rw [List.length_map, hT.1]; exact l1, by rw [List.length_map, hT.1]; exact l3, .inr ⟨ts, bs, rfl, hT, .inr (.inl ⟨mx, ft, fun H' p e _ => q H' e⟩)⟩⟩⟩
theorem seen_many {H : Hp} {Q : VK} {E : XK} {a t : Addr} {v r : Int} (h : H a = some (.lst [.ref t])) (hT : TabAt K CT H t ([], [v], r)) (hv : 600 < v) (hz : SzR ([], [v], r)) (q : ∀ H', Ex H H' → Q (.str "many") H') : spSeen K CT CM CB CF [.ref a] H Q E :=
  ⟨.ref a, rfl, .inr ⟨a, _, rfl, .inl (sq_l h), ⟨_, h⟩, Nat.le_refl 1, (by show 1 ≤ 3; decide), .inr ⟨[t], [([], [v], r)], rfl, ⟨rfl, fun i u b hu hb => by
    cases i with
    | zero =>
      rw [← Option.some.inj hu, ← Option.some.inj hb]
      exact hT
    | succ i => simp at hu⟩, .inr (.inr ⟨v, r, rfl, hv, hz, fun H' d e hd => .inr ⟨d, rfl, rfl, upd_same, q _ (e.trans (Evl.Ex.new hd))⟩⟩)⟩⟩⟩
theorem tabs_of {H : Hp} {xs : List Raw} : ∀ {ys : List V}, (∀ (i : Nat) y, ys[i]? = some y → ∃ t b, y = .ref t ∧ TabAt K CT H t b ∧ ∀ x, xs[i]? = some x → Plain x b) → ∃ ts bs, ys = ts.map V.ref ∧ TabsAt K CT H ts bs ∧ bs.length = ys.length ∧ ∀ (i : Nat) b x, bs[i]? = some b → xs[i]? = some x → Plain x b := by
  intro ys
  induction ys generalizing xs with
  | nil => exact fun _ => ⟨[], [], rfl, ⟨rfl, fun i t b h => by simp at h⟩, rfl, fun i b x h => by simp at h⟩
  | cons y ys ih =>
    intro h
    obtain ⟨t, b, rfl, hb, hp⟩ := h 0 y rfl
    obtain ⟨ts, bs, rfl, hT, hl, hP⟩ := ih (xs := xs.drop 1) fun i z hz => by
      obtain ⟨t', b', e, h1, h2⟩ := h (i + 1) z hz
      exact ⟨t', b', e, h1, fun x hx => h2 x (by rw [List.getElem?_drop] at hx; rw [Nat.add_comm]; exact hx)⟩
    refine ⟨t :: ts, b :: bs, rfl, ⟨by rw [List.length_cons, List.length_cons, hT.1], fun i u c hu hc => ?_⟩, by rw [List.length_cons, List.length_cons, hl], fun i c x hc hx => ?_⟩
    · cases i with
      | zero =>
        rw [← Option.some.inj hu, ← Option.some.inj hc]
        exact hb
      | succ i => exact hT.2 i u c hu hc
    · cases i with
      | zero =>
        rw [← Option.some.inj hc]
        exact hp x hx
      | succ i => exact hP i c x hc (by rw [List.getElem?_drop, Nat.add_comm]; exact hx)
theorem tabs_two {H : Hp} {t u : Addr} {a b : Raw} (ha : TabAt K CT H t a) (hb : TabAt K CT H u b) : TabsAt K CT H [t, u] [a, b] := ⟨rfl, fun i x c hx hc => by
  match i with
  | 0 => rw [← Option.some.inj hx, ← Option.some.inj hc]; exact ha
  | 1 => rw [← Option.some.inj hx, ← Option.some.inj hc]; exact hb
  | n + 2 => simp at hx⟩
theorem tabs_three {H : Hp} {t u v : Addr} {a b c : Raw} (ha : TabAt K CT H t a) (hb : TabAt K CT H u b) (hc : TabAt K CT H v c) : TabsAt K CT H [t, u, v] [a, b, c] := ⟨rfl, fun i x y hx hy => by
  match i with
  | 0 => rw [← Option.some.inj hx, ← Option.some.inj hy]; exact ha
  | 1 => rw [← Option.some.inj hx, ← Option.some.inj hy]; exact hb
  | 2 => rw [← Option.some.inj hx, ← Option.some.inj hy]; exact hc
  | n + 3 => simp at hx⟩
theorem if_no {tc : TT} {t u : TS} {D : Ends} {σ : L2.St} {H : Hp} (hc : ∀ R : Bool → Hp → Prop, (∀ H', Ex H H' → R false H') → tc σ H R) (h : ∀ H', Ex H H' → u D σ H') : tIfS tc t u D σ H :=
  hc _ fun H' e => if_f rfl (h H' e)
theorem rSlL_any {H : Hp} {a : Addr} {α : Type} {ns : List α} {f : α → V} {lo hi : Option Int} {Q : VK} (h : SqL K H a (ns.map f)) (q : ∀ b H', Ex H H' → H' b = some (.lst ((cutG ns lo hi).map f)) → Q (.ref b) H') : rSlL K (.ref a) lo hi H Q :=
  ⟨a, _, rfl, h, fun p hp => by rw [cut_map]; exact q p _ (Evl.Ex.new hp) upd_same⟩
theorem bad_five (T : Txt K mg CT CM) {H : Hp} {t : Addr} {xs : List V} (ht : SqT K H t xs) {d : Nat} (hd : d < 5) : ∃ (y : V) (Ty : String), ([V.non, .int 5, .ref t, .str "never", .bl true] : List V)[d]? = some y ∧ TyX K H y (.type Ty) ∧ PySem.W.kitOne K (.type Ty) (.ref CT) = some false := by
  have : d = 0 ∨ d = 1 ∨ d = 2 ∨ d = 3 ∨ d = 4 := by omega
  rcases this with rfl | rfl | rfl | rfl | rfl
  · exact ⟨_, "NoneType", rfl, .base .non, T.k_none⟩
  · exact ⟨_, "int", rfl, .base (.int _), T.k_int⟩
  · exact ⟨_, "tuple", rfl, tyx_t ht, T.k_tuple⟩
  · exact ⟨_, "str", rfl, .base (.str _), T.k_str⟩
  · exact ⟨_, "bool", rfl, .base (.bl _), T.k_bool⟩
def rws (H : Hp) (t1 t2 t3 : Addr) (x : Raw) : Hp := upd (upd (upd H t1 (.tup (x.1.map V.int))) t2 (.tup (x.2.1.map V.int))) t3 (.tup [.ref t1, .ref t2, .int x.2.2])
theorem raw_at {H : Hp} {t1 t2 t3 : Addr} (x : Raw) (n1 : H t1 = none) (n2 : upd H t1 (.tup (x.1.map V.int)) t2 = none) (n3 : upd (upd H t1 (.tup (x.1.map V.int))) t2 (.tup (x.2.1.map V.int)) t3 = none) :
    Ex H (rws H t1 t2 t3 x) ∧ Tp K (rws H t1 t2 t3 x) (.ref t3) (rawD x) := by
  obtain ⟨h, l, r⟩ := x
  have e0 : Ex H (upd H t1 (.tup (h.map V.int))) := Evl.Ex.new n1
  have e1 : Ex (upd H t1 (.tup (h.map V.int))) (upd (upd H t1 (.tup (h.map V.int))) t2 (.tup (l.map V.int))) := Evl.Ex.new n2
  have e2 : Ex (upd (upd H t1 (.tup (h.map V.int))) t2 (.tup (l.map V.int))) (rws H t1 t2 t3 (h, l, r)) := Evl.Ex.new n3
  exact ⟨e0.trans (e1.trans e2), tp_raw (sq_t upd_same) (tp_ints (Evl.ex_t (e1.trans e2) (sq_t (H := upd H t1 (.tup (h.map V.int))) upd_same))) (tp_ints (Evl.ex_t e2 (sq_t (H := upd (upd H t1 (.tup (h.map V.int))) t2 (.tup (l.map V.int))) upd_same)))⟩
def crs (H : Hp) (a0 a1 ac : Addr) (c : Nat) : Hp := upd (upd (upd H a0 (.tup [])) a1 (.tup (zeros c))) ac (.tup [.ref a0, .ref a1])
theorem course_at {H : Hp} {a0 a1 ac : Addr} {c : Nat} (n0 : H a0 = none) (n1 : upd H a0 (.tup []) a1 = none) (n2 : upd (upd H a0 (.tup [])) a1 (.tup (zeros c)) ac = none) :
    Ex H (crs H a0 a1 ac c) ∧ SqT K (crs H a0 a1 ac c) ac [.ref a0, .ref a1] ∧ SqT K (crs H a0 a1 ac c) a0 (zeros 0) ∧ SqT K (crs H a0 a1 ac c) a1 (zeros c) := by
  have e0 : Ex H (upd H a0 (.tup [])) := Evl.Ex.new n0
  have e1 : Ex (upd H a0 (.tup [])) (upd (upd H a0 (.tup [])) a1 (.tup (zeros c))) := Evl.Ex.new n1
  have e2 : Ex (upd (upd H a0 (.tup [])) a1 (.tup (zeros c))) (crs H a0 a1 ac c) := Evl.Ex.new n2
  exact ⟨e0.trans (e1.trans e2), sq_t upd_same, Evl.ex_t (e1.trans e2) (sq_t (H := upd H a0 (.tup [])) upd_same), Evl.ex_t e2 (sq_t (H := upd (upd H a0 (.tup [])) a1 (.tup (zeros c))) upd_same)⟩
theorem ended0 : Ended 1 (([0] : List Int), [], 0) := ⟨rfl, rfl, rfl, by decide, by decide, fun i => by
  match i with
  | 0 => decide
  | n + 1 => show (([0] : List Int).getD (n + 1) 0) ≤ 100; simp⟩
def spLaw (K : PySem.W.Frag) : Sp := fun vs H Q _ => ∃ (a : Addr) (xs : List Int), vs = [.ref a] ∧ SqL K H a (xs.map V.int) ∧ (∀ z ∈ xs, Builtin.Int.intBits z ≤ 1048576) ∧ ∀ H', Q (.bl true) H'
abbrev s_law : Stmt := top 86
theorem sc_law : FnScope ["_law_script", "_law_source_here", "_law_raws", "_law_tables_here", "_law_made", "_law_maker", "_law_inlet", "_law_plain_here", "_law_place", "_law_bad", "_law_steady", "_law_ended_here", "_law_row", "_law_raw_here"] ["_law_script"] (defScope s_law) := ⟨rfl, rfl, rfl, by decide +kernel, rfl, by decide +kernel, by decide +kernel⟩
theorem ok_law {f : Addr} {fd : FuncData} {ev : Addr} (F : Fun K "law" "law" s_law f fd) (T : Txt K mg CT CM) (c__law_source : C8.Cal P w K mg base 1 "_law_source" (spSource K) []) (c__law_tables : C8.Cal P w K mg base 4 "_law_tables" (spTabs K) [])
    (c__law_table : C8.Cal P w K mg base 7 "_law_table" (spLTab K CT) []) (x_maker_of : CalX P w K mg base 8 "maker_of" (spMk K CT CM CB CF)) (c__law_plain : C8.Cal P w K mg base 1 "_law_plain" (spLPlain K) [])
    (c__law_on : C8.Cal P w K mg base 2 "_law_on" (spOn K) []) (c__law_same : C8.Cal P w K mg base 3 "_law_same" (spSame K CT) []) (mt_need : C8.Met P w K mg base 8 CM "need" (spNeed K CT CM) [])
    (c_least : C8.Cal P w K mg base 9 "least" (spLeast K CT CM) []) (c_greatest : C8.Cal P w K mg base 9 "greatest" (spLeast K CT CM) []) (c__law_pick : C8.Cal P w K mg base 1 "_law_pick" spPick []) (c__law_seen : C8.Cal P w K mg base 10 "_law_seen" (spSeen K CT CM CB CF) [])
    (m_Table3 : C8.Mak P w K mg base 5 "Table" CT (spTable K CT) []) (oe_Table : OwnEqT P w K mg base CT) : FnOk P w K mg base CX0 13 f fd ["_law_script"] (spLaw K) := by
  refine F.ok sc_law (fun vs H Q E h => ?_) (fun cdv A outer s H vs Q E hr h => ?_)
  · obtain ⟨_, _, rfl, _⟩ := h
    rfl
  · obtain ⟨a, xs, rfl, hA, hb, q⟩ := h
    refine ⟨_, (pss_cons (ps_set (i := 1) sc_law.nd rfl (Or.inl rfl) (C8.pe_c c__law_source hr (by omega) rfl (pa_cons (pv 0) (pa_cons pe_int pa_nil))))
      (pss_cons (ps_set (i := 2) sc_law.nd rfl (Or.inl rfl) (C8.pe_c c__law_tables hr (by omega) rfl (pa_cons (pv 1) pa_nil)))
      (pss_cons (ps_setLc (i := 3) (own := [("_law_raw_here", 13)]) (g := gName 13) (tt := tYes) rfl sc_law.nd rfl rfl (sw_true rfl rfl rfl (by decide +kernel)) (pi_list (pv 2)) (blkOk_by (own := [("_law_raw_here", 13)]) (N := ["_law_script", "_law_source_here", "_law_raws", "_law_tables_here", "_law_made", "_law_maker", "_law_inlet", "_law_plain_here", "_law_place", "_law_bad", "_law_steady", "_law_ended_here", "_law_row", "_law_raw_here"]) (sc := defScope s_law) (by decide +kernel)) (fun _ _ _ _ _ => pg_name (i := 13) sc_law.nd rfl (Or.inl rfl)) (fun _ _ _ _ _ => pts_nil) (fun _ _ _ _ _ => (C8.pe_c c__law_table hr (by omega) rfl (pa_cons (pv 13) pa_nil))))
      (pss_cons (ps_set (i := 4) sc_law.nd rfl (Or.inl rfl) (K28.pe_cx x_maker_of hr (by omega) rfl (fun σ => passAt takes0 σ) (pa_cons (pv 3) pa_nil)))
      (pss_cons (ps_if (PW.pt (pw_or (pt_not (pt_val (pe_callB (r := rIsi K) call_isi (by rfl) T.b_isinstance (by decide +kernel) (pa_cons (pv 4) (pa_cons (C8.pe_gc rfl T.g_Maker) pa_nil))))) (pw_or (pt_cmpR op_ne (pe_fldK (K := K) (pv 4) rfl rfl) (pe_callB (r := Evl.rLenS K) call_len_seq (by rfl) T.b_len PySem.boot_len (pa_cons (pv 2) pa_nil)) (nomark _)) (pw_or1 (pt_cmpR op_ne (pe_callB (r := Evl.rLenS K) call_len_seq (by rfl) T.b_len PySem.boot_len (pa_cons (pe_fldK (K := K) (pv 4) rfl rfl) pa_nil)) pe_int (nomark _)))))) (pss_one (ps_ret pe_bl)) pss_nil)
      (pss_cons (ps_set (i := 5) sc_law.nd rfl (Or.inl rfl) (pe_tup (pa_cons (pe_fldK (K := K) (pv 4) rfl rfl) (pa_cons (pe_fldK (K := K) (pv 4) rfl rfl) (pa_cons (pe_fldK (K := K) (pv 4) rfl rfl) pa_nil)))))
      (pss_cons (ps_for PassesOwn.never rfl (pi_range1 rfl T.b_range (pa_cons (pe_callB (r := Evl.rLenS K) call_len_seq (by rfl) T.b_len PySem.boot_len (pa_cons (pv 2) pa_nil)) pa_nil)) (pg_name (i := 6) sc_law.nd rfl (Or.inl rfl)) (pss_cons (ps_set (i := 7) sc_law.nd rfl (Or.inl rfl) (C8.pe_c c__law_plain hr (by omega) rfl (pa_cons (pe_ix (r := rIxT K) ix_tup (pe_ix (r := rIxL K) ix_list (pv 2) (pv 6) (fun _ _ => rfl)) pe_int (fun _ _ => rfl)) (pa_cons (pe_ix (r := rIxT K) ix_tup (pe_ix (r := rIxL K) ix_list (pv 2) (pv 6) (fun _ _ => rfl)) pe_int (fun _ _ => rfl)) (pa_cons (pe_ix (r := rIxT K) ix_tup (pe_ix (r := rIxL K) ix_list (pv 2) (pv 6) (fun _ _ => rfl)) pe_int (fun _ _ => rfl)) pa_nil)))))
      (pss_cons (ps_if (PW.pt (pw_or (pt_cmpR (r := rNeD K) (op_neD hr.units) (C8.pe_c c__law_on hr (by omega) rfl (pa_cons (pv 5) (pa_cons (pv 6) (pa_cons (pe_tup (pa_cons (pe_tup pa_nil) (pa_cons (pe_tup (pa_cons pe_int pa_nil)) pa_nil))) pa_nil)))) (pv 7) (nomark _)) (pw_or1 (pt_not (pt_val (C8.pe_c c__law_same hr (by omega) rfl (pa_cons (C8.pe_mt mt_need hr (by omega) (pv 4) (pa_cons (pv 6) (pa_cons (pe_tup (pa_cons (pe_tup pa_nil) (pa_cons (pe_tup (pa_cons pe_int pa_nil)) pa_nil))) pa_nil))) (pa_cons (pv 7) pa_nil)))))))) (pss_one (ps_ret pe_bl)) pss_nil)
      (pss_one (ps_if (PW.pt (pw_or (pt_not (pt_val (C8.pe_c c__law_same hr (by omega) rfl (pa_cons (C8.pe_c c_least hr (by omega) rfl (pa_cons (pv 4) (pa_cons (pv 6) pa_nil))) (pa_cons (pv 7) pa_nil))))) (pw_or1 (pt_not (pt_val (C8.pe_c c__law_same hr (by omega) rfl (pa_cons (C8.pe_c c_greatest hr (by omega) rfl (pa_cons (pv 4) (pa_cons (pv 6) pa_nil))) (pa_cons (pv 7) pa_nil)))))))) (pss_one (ps_ret pe_bl)) pss_nil)))))
      (pss_cons (ps_if (pt_not (pt_cmpR (r := rEqG (DIns CT (RTab K CT))) (op_eqT oe_Table hr (by omega)) (C8.pe_mt mt_need hr (by omega) (K28.pe_cx x_maker_of hr (by omega) rfl (fun σ => passAt takes0 σ) (pa_cons (pe_callTy (r := rTupOf K) call_tuple_of (by rfl) T.b_tuple (by decide +kernel) (pa_cons (pv 3) pa_nil)) pa_nil)) (pa_cons pe_int (pa_cons (pe_tup (pa_cons (pe_tup pa_nil) (pa_cons (pe_tup (pa_cons pe_int (pa_cons pe_int pa_nil))) pa_nil))) pa_nil))) (pe_ix (r := rIxL K) ix_list (pv 3) pe_int (fun _ _ => rfl)) (nomark _))) (pss_one (ps_ret pe_bl)) pss_nil)
      (pss_cons (ps_set (i := 8) sc_law.nd rfl (Or.inl rfl) (C8.pe_c c__law_pick hr (by omega) rfl (pa_cons (pv 1) (pa_cons (pe_op op_add (pe_callB (r := Evl.rLenS K) call_len_seq (by rfl) T.b_len PySem.boot_len (pa_cons (pv 3) pa_nil)) pe_int) pa_nil))))
      (pss_cons (ps_set (i := 9) sc_law.nd rfl (Or.inl rfl) (pe_ix (r := rIxL K) ix_list (pe_lst (pa_cons pe_non (pa_cons pe_int (pa_cons (pe_tup (pa_cons pe_int (pa_cons pe_int pa_nil))) (pa_cons pe_str (pa_cons pe_bl pa_nil)))))) (C8.pe_c c__law_pick hr (by omega) rfl (pa_cons (pv 1) (pa_cons pe_int pa_nil))) (fun _ _ => rfl)))
      (pss_cons (ps_if (PW.pt (pw_and (pt_cmpR op_lt (pe_callB (r := Evl.rLenS K) call_len_seq (by rfl) T.b_len PySem.boot_len (pa_cons (pv 3) pa_nil)) pe_int (nomark _)) (pw_and1 (pt_cmpR op_ne (C8.pe_c c__law_seen hr (by omega) rfl (pa_cons (pe_op op_cat (pe_op op_cat (pe_slice (r := rSlL K) sl_list (pv 3) po_none (po_some (pv 8))) (pe_lst (pa_cons (pv 9) pa_nil))) (pe_slice (r := rSlL K) sl_list (pv 3) (po_some (pv 8)) po_none)) pa_nil)) (pv 8) (nomark _))))) (pss_one (ps_ret pe_bl)) pss_nil)
      (pss_cons (ps_if (PW.pt (pw_or (pt_cmpR op_ne (C8.pe_c c__law_seen hr (by omega) rfl (pa_cons (pe_tup pa_nil) pa_nil)) (pe_un un_neg pe_int) (nomark _)) (pw_or (pt_cmpR op_ne (C8.pe_c c__law_seen hr (by omega) rfl (pa_cons (pe_op op_rep (pe_slice (r := rSlL K) sl_list (pv 3) po_none (po_some pe_int)) pe_int) pa_nil)) (pe_un un_neg pe_int) (nomark _)) (pw_or1 (pt_cmpR op_ne (C8.pe_c c__law_seen hr (by omega) rfl (pa_cons pe_non pa_nil)) (pe_un un_neg pe_int) (nomark _)))))) (pss_one (ps_ret pe_bl)) pss_nil)
      (pss_cons (ps_par (i := 10) (j := 11) (by rfl) sc_law.nd rfl rfl (by decide) rfl rfl (pa_cons (C8.pe_c c__law_table hr (by omega) rfl (pa_cons (pe_tup (pa_cons (pe_tup pa_nil) (pa_cons (pe_tup (pa_cons pe_int pa_nil)) (pa_cons pe_int pa_nil)))) pa_nil)) (pa_cons (C8.pe_c c__law_table hr (by omega) rfl (pa_cons (pe_tup (pa_cons (pe_tup (pa_cons pe_int (pa_cons pe_int pa_nil))) (pa_cons (pe_tup pa_nil) (pa_cons pe_int pa_nil)))) pa_nil)) pa_nil)) (by rfl))
      (pss_cons (ps_for PassesOwn.never rfl (pi_list (pe_lst (pa_cons (pe_lst (pa_cons (pv 10) (pa_cons (pv 11) pa_nil))) (pa_cons (pe_lst (pa_cons (pv 11) (pa_cons (C8.pe_c c__law_table hr (by omega) rfl (pa_cons (pe_tup (pa_cons (pe_tup (pa_cons pe_int pa_nil)) (pa_cons (pe_tup pa_nil) (pa_cons pe_int pa_nil)))) pa_nil)) pa_nil))) (pa_cons (pe_lst (pa_cons (pv 11) (pa_cons (pv 11) (pa_cons (pv 10) pa_nil)))) pa_nil))))) (pg_name (i := 12) sc_law.nd rfl (Or.inl rfl)) (pss_one (ps_if (pt_cmpR op_ne (C8.pe_c c__law_seen hr (by omega) rfl (pa_cons (pv 12) pa_nil)) (pe_un un_neg pe_int) (nomark _)) (pss_one (ps_ret pe_bl)) pss_nil)))
      (pss_cons (ps_if (PW.pt (pw_or (pt_cmpR op_notN (C8.pe_c c__law_seen hr (by omega) rfl (pa_cons (pe_lst (pa_cons (pv 11) (pa_cons (pv 11) pa_nil))) pa_nil)) pe_non (nomark _)) (pw_or1 (pt_cmpR op_ne (C8.pe_c c__law_seen hr (by omega) rfl (pa_cons (pe_lst (pa_cons (pv 10) (pa_cons pe_non pa_nil))) pa_nil)) pe_int (nomark _))))) (pss_one (ps_ret pe_bl)) pss_nil)
      (pss_cons (ps_if (pt_cmpR op_notN (C8.pe_c c__law_seen hr (by omega) rfl (pa_cons (pe_lst (pa_cons (C8.pe_mk m_Table3 hr (by omega) rfl (pa_cons (pe_tup pa_nil) (pa_cons (pe_tup (pa_cons pe_int pa_nil)) (pa_cons pe_int pa_nil)))) pa_nil)) pa_nil)) pe_non (nomark _)) (pss_one (ps_ret pe_bl)) pss_nil)
      (pss_one (ps_ret (pe_cmpR op_eq (C8.pe_c c__law_seen hr (by omega) rfl (pa_cons (pe_lst (pa_cons (C8.pe_mk m_Table3 hr (by omega) rfl (pa_cons (pe_tup pa_nil) (pa_cons (pe_tup (pa_cons (pe_op op_add pe_int (C8.pe_c c__law_pick hr (by omega) rfl (pa_cons (pv 1) (pa_cons pe_int pa_nil)))) pa_nil)) (pa_cons pe_int pa_nil)))) pa_nil)) pa_nil)) pe_str (nomark _)))))))))))))))))))), ?_⟩
    refine sq1 ⟨_, rfl, a, xs, rfl, hA, hb, fun H1 ps n1 s1 c1 e1 hs1 => ?_⟩
    refine gn1 ?_
    try dsimp only
    refine sq1 ⟨_, rfl, ps, rfl, ⟨n1, s1, c1, hs1⟩, fun H2 pr us rs b2 ⟨n2, s2, c2, hs2⟩ npr hpr hR hL => ?_⟩
    have nrs : pr ≠ ps := fun z => by rw [z, hs1] at npr; cases npr
    have rl := hL.1
    have rl3 := hL.2.1
    have ul := hR.1
    refine gn1 ?_
    try dsimp only
    -- the tables
    refine sq1 (as1 (lc_lb (j := 13) ?_))
    refine ⟨_, rfl, pr, rfl, ⟨_, sq_l hpr⟩, lc_map wk_list (fun (i : Nat) y H => ∃ t b, y = .ref t ∧ TabAt K CT H t b ∧ ∀ x, rs[i]? = some x → Plain x b) (fun _ _ e g => Evl.ex_l e g) (fun _ _ _ _ e ⟨t, b, h1, h2, h3⟩ => ⟨t, b, h1, h2.kp e, h3⟩) (sq_l hpr) (by omega) (fun i z H' Q' hi hz e' kk => ?_) ?_⟩
    · have hir : i < rs.length := by rw [← ul]; exact hi
      have hri : rs[i]? = some rs[i] := by simp [hir]
      obtain ⟨g1, g2⟩ := hL.good (List.getElem_mem hir)
      refine ⟨_, rfl, z, rs[i], rfl, (hR.2 i z _ hz hri).ex e', g1, g2, fun H'' t b e'' hp ht => kk _ H'' e'' ⟨t, b, rfl, ht, fun x hx => ?_⟩⟩
      rw [hri] at hx
      rw [← Option.some.inj hx]
      exact hp
    intro pt ys H3 hl3 npt e3 hpt hr3
    obtain ⟨ts, bs, rfl, hT, hbl, hP⟩ := tabs_of hr3
    rw [hl3] at hbl
    obtain ⟨mx, fine⟩ := law_math (bs := bs) hL (by omega) hP
    have ntl : ts.length = bs.length := hT.1
    have nts : pt ≠ ps := fun z => by rw [z, hs2] at npt; cases npt
    have hs3 := e3 _ _ hs2
    have hpr3 := e3 _ _ hpr
    have hR3 := hR.kp (.of e3)
    clear hR hpr e3 hr3 hl3 hs2 e1 hs1 b2 npr
    try dsimp only
    have bl1 := fine.n1
    have bl3 := fine.n3
    -- the maker
    refine sq1 ?_
    refine ⟨_, rfl, ?_⟩
    unfold tNil
    dsimp only
    refine ⟨.ref pt, rfl, .inr ⟨pt, _, rfl, .inl (sq_l hpt), ⟨_, hpt⟩, by rw [List.length_map]; omega, by rw [List.length_map]; omega, .inr ⟨ts, bs, rfl, hT, .inr (.inl ⟨mx, fine.fit, fun H4 pm e4 hm => ?_⟩)⟩⟩⟩
    obtain ⟨dx, vb_, vw, om, tb, tw⟩ := id hm
    obtain ⟨aw, bw, rfl, hW, hw⟩ := tw.way
    refine gn1 ?_
    try dsimp only
    try refine sq1 ?_
    have hn : (((mkrOf bs mx).n : Nat) : Int) = ((us.length : Nat) : Int) := by
      show ((bs.length : Nat) : Int) = _
      rw [hbl]
    refine ⟨_, rfl, _, _, _, _, true, rfl, .own _, .base (.ins om T.isM.cl T.isM.ha T.isM.hn T.isM.htk T.isM.hm), kit_own _, true, rfl, if_f rfl ?_⟩
    have hpr4 := e4 _ _ hpr3
    refine ⟨_, rfl, pm, CM, dx, _, _, rfl, om, T.clM, T.m_inlets, mfs_inlets _ _ _, _, rfl, pr, _, rfl, .inl (sq_l hpr4), rfl, _, rfl, if_f ?_ ?_⟩
    · rw [dInt, decide_eq_true hn]; rfl
    refine ⟨_, rfl, pm, CM, dx, _, _, rfl, om, T.clM, T.m_ways, mfs_ways _ _ _, aw, _, rfl, .inr hW, rfl, _, rfl, if_f (by show (!decide (V.int ((1 : Nat) : Int) = V.int 1)) = false; decide) ?_⟩
    unfold tNext
    try dsimp only
    try refine sq1 ?_
    refine ⟨_, rfl, pm, CM, dx, _, _, rfl, om, T.clM, T.m_inlets, mfs_inlets _ _ _, _, rfl, pm, CM, dx, _, _, rfl, om, T.clM, T.m_begin, mfs_begin _ _ _, _, rfl, pm, CM, dx, _, _, rfl, om, T.clM, T.m_ways, mfs_ways _ _ _, (by show 3 ≤ sizeLine; decide), fun am ham => ?_⟩
    have e5 : Ex H4 (upd H4 am (.tup [.int (((mkrOf bs mx).n : Nat) : Int), vb_, .ref aw])) := Evl.Ex.new ham
    have ham5 : SqT K (upd H4 am (.tup [.int (((mkrOf bs mx).n : Nat) : Int), vb_, .ref aw])) am [.int (((mkrOf bs mx).n : Nat) : Int), vb_, .ref aw] := sq_t upd_same
    generalize upd H4 am (.tup [.int (((mkrOf bs mx).n : Nat) : Int), vb_, .ref aw]) = H5 at *
    have hpr5 := e5 _ _ hpr4
    have hpt5 := e5 _ _ (e4 _ _ hpt)
    have hs5 := e5 _ _ (e4 _ _ hs3)
    have hR5 := hR3.kp (.of (e4.trans e5))
    have hT5 := hT.ex (e4.trans e5)
    have hm5 := hm.ex e5
    have tb5 := tb.ex e5
    have tw5 := tw.ex e5
    clear hs3 hpt hpr4 hpr3 hR3 hT hm tb tw e4 om hW hw
    refine gn1 ?_
    try dsimp only
    refine sq1 (fr_fb ?_)
    refine ⟨_, rfl, pr, _, rfl, .inl (sq_l hpr5), _, rfl, by omega, by omega, ?_⟩
    refine fb_go wk_range (fun i σ' H' => ∃ x6 x7 : Option V, σ' = [some (.ref a), some (.ref ps), some (.ref pr), some (.ref pt), some (.ref pm), some (.ref am), x6, x7, none, none, none, none, none, none] ∧ Ex H5 H') ⟨none, none, rfl, Ex.r⟩ (fun i σ' H' _ _ => True.intro) ?_ ?_
    · rintro i x σ' H6 hi hx ⟨x6, x7, rfl, e6⟩
      have ex : x = .int ((i : Nat) : Int) := by rw [hx]; simp
      subst ex
      clear hx
      have hi' : i < us.length := by omega
      have hir : i < rs.length := by omega
      have hib : i < bs.length := by omega
      have hui : us[i]? = some us[i] := by simp [hi']
      have hri : rs[i]? = some rs[i] := by simp [hir]
      have hbi : bs[i]? = some bs[i] := by simp [hib]
      have hPi := hP i _ _ hbi hri
      have tidy := fine.tidy _ (List.mem_of_getElem? hbi)
      have hsz4 := hL.small (List.mem_of_getElem? hri)
      have tv := (hR5.2 i _ _ hui hri).ex e6
      have need1 := fine.need i 1 _ hbi (Nat.le_refl 1) (by omega)
      generalize rs[i] = rx at *
      generalize bs[i] = b at *
      generalize us[i] = v at *
      obtain ⟨h, l, r⟩ := rx
      obtain ⟨av, vh, vl, rfl, qA, th, tl⟩ := tv.raw
      obtain ⟨ah, rfl, qh⟩ := th.ints
      obtain ⟨al, rfl, ql⟩ := tl.ints
      have hpr6 := sq_l (K := K) (e6 _ _ hpr5)
      refine gn1 ?_
      try dsimp only
      refine sq1 ⟨_, rfl, _, rfl, pr, _, _, _, rfl, rfl, hpr6, atI_nat hui, av, _, _, _, rfl, rfl, qA, rfl, _, rfl, _, rfl, pr, _, _, _, rfl, rfl, hpr6, atI_nat hui, av, _, _, _, rfl, rfl, qA, rfl, _, rfl, _, rfl, pr, _, _, _, rfl, rfl, hpr6, atI_nat hui, av, _, _, _, rfl, rfl, qA, rfl, ?_⟩
      refine ⟨ah, al, h, l, r, rfl, .inr ⟨qh, ql⟩, hsz4.1, hsz4.2, fun b1 v1 H7 e7 hb1 ht1 => ?_⟩
      obtain rfl := Plain.unique hb1 hPi
      have E7 := e6.trans e7
      refine gn1 ?_
      try dsimp only
      try refine sq1 ?_
      refine ⟨_, rfl, _, rfl, Nat.zero_le _, fun a0 n0 => ⟨(by show 1 ≤ sizeLine; decide), fun a1 n1 => ⟨(by show 2 ≤ sizeLine; decide), fun ac n2 => ?_⟩⟩⟩
      obtain ⟨e8, q8, q80, q81⟩ := course_at (K := K) (c := 1) n0 n1 n2
      change spOn K _ (crs H7 a0 a1 ac 1) _ _
      generalize crs H7 a0 a1 ac 1 = H8 at *
      have E8 := E7.trans e8
      refine ⟨am, ac, a0, a1, _, _, _, mkrOf bs mx, i, 1, rfl, Evl.ex_t E8 ham5, tb5.ex E8, tw5.ex E8, q8, q80, q81, by omega, fine.zb, fine.zw, fun b2 v2 H9 e9 hb2 ht2 => ?_⟩
      obtain rfl := need1.2.2 b2 hb2
      refine ⟨_, rfl, _, _, ht2.dp, ((ht1.ex e8).ex e9).dp, shaped_raw _, shaped_raw _, ?_⟩
      rw [eqv_self (shaped_raw _)]
      refine ⟨_, rfl, if_f rfl ?_⟩
      have E9 := E8.trans e9
      have ht9 := (ht1.ex e8).ex e9
      have hm9 := hm5.ex E9
      obtain ⟨dx9, vb9, vw9, om9, _, _⟩ := id hm9
      clear e8 e9 q8 q80 q81 n0 n1 n2 ht2 hb2
      -- need
      refine ⟨_, rfl, pm, dx9, _, rfl, om9, mfs_need _ _ _, _, rfl, Nat.zero_le _, fun a0 n0 => ⟨(by show 1 ≤ sizeLine; decide), fun a1 n1 => ⟨(by show 2 ≤ sizeLine; decide), fun ac n2 => ?_⟩⟩⟩
      obtain ⟨e8, q8, q80, q81⟩ := course_at (K := K) (c := 1) n0 n1 n2
      change spNeed K CT CM _ (crs H9 a0 a1 ac 1) _ _
      generalize crs H9 a0 a1 ac 1 = H10 at *
      refine ⟨pm, ac, a0, a1, mkrOf bs mx, i, 1, rfl, hm9.ex e8, hib, q8, q80, q81, Nat.le_refl 1, by omega, fine.zb, fine.zw, need1.1, need1.2.1, fun t1 b3 H11 e11 hb3 ht3 => ?_⟩
      obtain rfl := need1.2.2 b3 hb3
      refine ⟨_, rfl, t1, _, b3, rfl, ht3, (ht9.ex e8).ex e11, tidy.c1, tidy.c2, tidy.r0, tidy.h1, tidy.h2, fun H12 e12 => ⟨true, rfl, if_f rfl ?_⟩⟩
      try dsimp only
      have E12 := E9.trans (e8.trans (e11.trans e12))
      have ht12 := ((ht9.ex e8).ex e11).ex e12
      have hm12 := hm5.ex E12
      clear e8 e11 e12 q8 q80 q81 n0 n1 n2 hb3 ht3 ht9 hm9 om9
      refine ⟨_, rfl, _, rfl, pm, mkrOf bs mx, i, rfl, hm12, hib, fine.zb, fine.zw, need1.1, need1.2.1, fun t2 b4 H13 e13 hb4 ht4 => ?_⟩
      obtain rfl := need1.2.2 b4 hb4
      refine ⟨_, rfl, t2, _, b4, rfl, ht4, ht12.ex e13, tidy.c1, tidy.c2, tidy.r0, tidy.h1, tidy.h2, fun H14 e14 => ⟨true, rfl, if_f rfl ?_⟩⟩
      refine ⟨_, rfl, _, rfl, pm, mkrOf bs mx, i, rfl, (hm12.ex e13).ex e14, hib, fine.zb, fine.zw, need1.1, need1.2.1, fun t3 b5 H15 e15 hb5 ht5 => ?_⟩
      obtain rfl := need1.2.2 b5 hb5
      refine ⟨_, rfl, t3, _, b5, rfl, ht5, ((ht12.ex e13).ex e14).ex e15, tidy.c1, tidy.c2, tidy.r0, tidy.h1, tidy.h2, fun H16 e16 => ⟨true, rfl, if_f rfl ?_⟩⟩
      exact ⟨_, _, rfl, E12.trans (e13.trans (e14.trans (e15.trans e16)))⟩
    · rintro σ' H6 ⟨x6, x7, rfl, e6⟩
      have hpt6 := e6 _ _ hpt5
      have hT6 := hT5.ex e6
      have hs6 := e6 _ _ hs5
      clear e6 hs5 hT5 hpt5 hm5 tb5 tw5 ham5 hR5 hpr5 e5
      -- a maker of a tuple of them
      try dsimp only
      try refine sq1 ?_
      refine ⟨_, rfl, pt, _, rfl, .inl ⟨sq_l hpt6, fun tp htp => ?_⟩⟩
      have e7 : Ex H6 (upd H6 tp (.tup (ts.map V.ref))) := Evl.Ex.new htp
      have htp7 : upd H6 tp (.tup (ts.map V.ref)) tp = some (.tup (ts.map V.ref)) := upd_same
      generalize upd H6 tp (.tup (ts.map V.ref)) = H7 at *
      refine ⟨.ref tp, rfl, .inr ⟨tp, _, rfl, .inr (sq_t htp7), ⟨_, htp7⟩, by rw [List.length_map]; omega, by rw [List.length_map]; omega, .inr ⟨ts, bs, rfl, hT6.ex e7, .inr (.inl ⟨mx, fine.fit, fun H8 pn e8 hm8 => ?_⟩)⟩⟩⟩
      obtain ⟨dx8, vb8, vw8, om8, _, _⟩ := id hm8
      refine ⟨pn, dx8, _, rfl, om8, mfs_need _ _ _, ?_⟩
      refine ⟨Nat.zero_le _, fun a0 n0 => ⟨(by show 2 ≤ sizeLine; decide), fun a1 n1 => ⟨(by show 2 ≤ sizeLine; decide), fun ac n2 => ?_⟩⟩⟩
      obtain ⟨e9, q9, q90, q91⟩ := course_at (K := K) (c := 2) n0 n1 n2
      change spNeed K CT CM _ (crs H8 a0 a1 ac 2) _ _
      generalize crs H8 a0 a1 ac 2 = H9 at *
      have hb0 : bs[0]? = some bs[0] := by simp [show 0 < bs.length by omega]
      have ht0 : ts[0]? = some ts[0] := by simp [show 0 < ts.length by omega]
      have need2 := fine.need 0 2 _ hb0 (by omega) (Nat.le_refl 2)
      have hT0 := hT6.2 0 _ _ ht0 hb0
      generalize bs[0] = b0 at *
      generalize ts[0] = t0 at *
      refine ⟨pn, ac, a0, a1, mkrOf bs mx, 0, 2, rfl, hm8.ex e9, (by show 0 < bs.length; omega), q9, q90, q91, by omega, Nat.le_refl 2, fine.zb, fine.zw, need2.1, need2.2.1, fun t b H10 e10 hb ht => ?_⟩
      obtain rfl := need2.2.2 b hb
      have E10 := e7.trans (e8.trans (e9.trans e10))
      obtain ⟨dxa, vha, vla, oa, _, _⟩ := id ht
      have hT10 := hT0.ex E10
      obtain ⟨dxb, vhb, vlb, ob, _, _⟩ := id hT10
      refine ⟨_, rfl, pt, _, _, _, rfl, rfl, sq_l (E10 _ _ hpt6), atI_nat (j := 0) (by rw [List.getElem?_map, ht0]; rfl), ⟨t, t0, dxa, dxb, _, _, rfl, rfl, oa, ob, _, ht, hT10⟩, fun H11 e11 => ⟨true, rfl, if_f rfl ?_⟩⟩
      have E11 : Ex H6 H11 := E10.trans (show Ex H10 H11 from e11)
      have hpt11 := E11 _ _ hpt6
      have hT11 := hT6.ex E11
      have hs11 := E11 _ _ hs6
      clear E10 E11 e7 e8 e9 e10 e11 q9 q90 q91 n0 n1 n2 oa ob om8 hm8 htp7 hT6 hpt6 hs6 hT10 ht hb htp hT0
      try unfold tNext
      try dsimp only
      try refine sq1 ?_
      -- where the bad thing stands
      refine ⟨_, rfl, _, rfl, pt, _, rfl, .inl (sq_l hpt11), _, _, rfl, rfl, ps, _, _, _, bs.length + 1, by rw [List.length_map, ntl]; rfl, hs11, by omega, by omega, fun H12 d n12 s12 c12 b12 hs12 hd => ?_⟩
      have hpt12 := b12 pt _ nts hpt11
      have hT12 := hT11.kp (b12.kp hs11)
      clear b12 hpt11 hT11 hs11
      refine gn1 ?_
      try dsimp only
      try refine sq1 ?_
      refine ⟨(by show 2 ≤ sizeLine; decide), fun t12 ht12 => ?_⟩
      have e13 : Ex H12 (upd H12 t12 (.tup [.int 1, .int 2])) := Evl.Ex.new ht12
      have q13 : upd H12 t12 (.tup [.int 1, .int 2]) t12 = some (.tup [.int 1, .int 2]) := upd_same
      generalize upd H12 t12 (.tup [.int 1, .int 2]) = H13 at *
      refine ⟨(by show 5 ≤ sizeLine; decide), fun pl hpl => ?_⟩
      have e14 : Ex H13 (upd H13 pl (.lst [.non, .int 5, .ref t12, .str "never", .bl true])) := Evl.Ex.new hpl
      have q14 : upd H13 pl (.lst [.non, .int 5, .ref t12, .str "never", .bl true]) pl = some (.lst [.non, .int 5, .ref t12, .str "never", .bl true]) := upd_same
      generalize upd H13 pl (.lst [.non, .int 5, .ref t12, .str "never", .bl true]) = H14 at *
      have hs14 := e14 _ _ (e13 _ _ hs12)
      have npl : pl ≠ ps := fun z => by rw [z, e13 _ _ hs12] at hpl; cases hpl
      refine ⟨_, rfl, ps, _, _, _, 5, rfl, hs14, by omega, by omega, fun H15 d5 n15 s15 c15 b15 hs15 hd5 => ?_⟩
      have K15 : Kp H14 H15 := b15.kp hs14
      obtain ⟨y, Ty, hy, ty, ky⟩ := bad_five T (K := K) (H := H15) (t := t12) (xs := [.int 1, .int 2]) (K15.t (sq_t (e14 _ _ q13))) hd5
      refine ⟨pl, _, _, _, rfl, rfl, sq_l (b15 _ _ npl q14), atI_nat hy, ?_⟩
      have hpt15 := b15 pt _ nts (e14 _ _ (e13 _ _ hpt12))
      have hT15 := ((hT12.ex e13).ex e14).kp K15
      clear b15 K15 q14 q13 e14 e13 hs14 hs12 hpt12 hT12 hy hpl ht12
      refine gn1 ?_
      try dsimp only
      try refine sq1 ?_
      refine if_no (fun R hR => ?_) (fun H16 e16 => ?_)
      · refine ⟨_, rfl, pt, _, rfl, .inl (sq_l hpt15), _, _, rfl, rfl, _, rfl, ite2 (fun c => ?_) (fun c => hR _ Ex.r)⟩
        have c3 : bs.length < 3 := by have := of_decide_eq_true c; rw [List.length_map, ntl] at this; omega
        refine ⟨_, rfl, _, rfl, _, rfl, rSlL_any (sq_l hpt15) fun p1 H1 e1 q1 => ?_⟩
        rw [cutG_take rfl (by omega)] at q1
        refine ⟨_, rfl, (by show 1 ≤ sizeLine; decide), fun pb hpb => ?_⟩
        have e2 : Ex H1 (upd H1 pb (.lst [y])) := Evl.Ex.new hpb
        have q2 : upd H1 pb (.lst [y]) pb = some (.lst [y]) := upd_same
        generalize upd H1 pb (.lst [y]) = H2 at *
        refine ⟨p1, pb, _, _, rfl, rfl, e2 _ _ q1, q2, Evl.sz_of (by rw [List.length_map, List.length_take, List.length_singleton]; omega), fun p3 hp3 => ?_⟩
        have e3 : Ex H2 (upd H2 p3 (.lst ((ts.take d).map V.ref ++ [y]))) := Evl.Ex.new hp3
        have q3 : upd H2 p3 (.lst ((ts.take d).map V.ref ++ [y])) p3 = some (.lst ((ts.take d).map V.ref ++ [y])) := upd_same
        generalize upd H2 p3 (.lst ((ts.take d).map V.ref ++ [y])) = H3 at *
        have E3 := e1.trans (e2.trans e3)
        refine ⟨_, rfl, _, rfl, _, rfl, ?_⟩
        unfold tNoPart
        dsimp only
        refine rSlL_any (sq_l (E3 _ _ hpt15)) fun p4 H4 e4 q4 => ?_
        rw [cutG_drop rfl (by omega)] at q4
        refine ⟨p3, p4, _, _, rfl, rfl, e4 _ _ q3, q4, Evl.sz_of (by rw [List.length_append, List.length_map, List.length_map, List.length_take, List.length_drop, List.length_singleton]; omega), fun p5 hp5 => ?_⟩
        have e5 : Ex H4 (upd H4 p5 (.lst ((ts.take d).map V.ref ++ [y] ++ (ts.drop d).map V.ref))) := Evl.Ex.new hp5
        have E5 := E3.trans (e4.trans e5)
        have ltk : ((ts.take d).map V.ref).length = d := by rw [List.length_map, List.length_take]; omega
        refine seen_bad (k := d) (y := y) (T := Ty) upd_same (by rw [List.length_append, List.length_append, List.length_singleton]; omega) (by rw [List.length_append, List.length_append, List.length_singleton, ltk, List.length_map, List.length_drop]; omega) ?_ (tyx_mono E5 ty) ky (fun j hj => ?_) fun H6 e6 => ?_
        · rw [List.append_assoc, List.getElem?_append_right (by omega), ltk, Nat.sub_self]; rfl
        · have hj2 : j < ts.length := by omega
          have hj3 : j < bs.length := by omega
          refine ⟨ts[j], bs[j], ?_, (hT15.2 j _ _ (by simp [hj2]) (by simp [hj3])).ex E5⟩
          rw [List.append_assoc, List.getElem?_append_left (by omega), List.getElem?_map, List.getElem?_take_of_lt hj]
          simp [hj2]
        · refine ⟨_, rfl, rfl, _, rfl, ?_⟩
          rw [dInt, decide_eq_true rfl]
          exact hR _ (E5.trans e6)
      · have hpt16 := e16 _ _ hpt15
        have hs16 := e16 _ _ hs15
        clear e16 hpt15 hT15 hs15 ty ky
        try unfold tNext
        try dsimp only
        try refine sq1 ?_
        refine if_no (fun R hR => ?_) (fun H17 e17 => ?_)
        · refine ⟨Nat.zero_le _, fun t1 h1 => ?_⟩
          have e1 : Ex H16 (upd H16 t1 (.tup [])) := Evl.Ex.new h1
          refine seen_len (.inr (sq_t upd_same)) (by simp) fun H1 e2 => ⟨_, rfl, rfl, _, rfl, if_f (by decide) ?_⟩
          have E1 := e1.trans e2
          refine ⟨_, rfl, _, rfl, rSlL_any (sq_l (E1 _ _ hpt16)) fun b H2 e3 q3 => ?_⟩
          rw [cutG_take (k := 1) (z := (1 : Int)) rfl (by omega)] at q3
          refine ⟨b, 4, _, rfl, rfl, q3, by omega, by omega, Evl.sz_of (by rw [List.length_map, List.length_take]; show min 1 ts.length * 4 ≤ _; omega), fun p4 h4 => ?_⟩
          have e4 : Ex H2 (upd H2 p4 (.lst (List.replicate (4 : Int).toNat ((ts.take 1).map V.ref)).flatten)) := Evl.Ex.new h4
          refine seen_len (.inl (sq_l upd_same)) ?_ fun H3 e5 => ⟨_, rfl, rfl, _, rfl, if_f (by decide) ?_⟩
          · have : (List.replicate (4 : Int).toNat ((ts.take 1).map V.ref)).flatten.length = 4 * 1 := by
              rw [List.length_flatten, List.map_replicate, List.sum_replicate_nat, List.length_map, List.length_take, Nat.min_eq_left (by omega)]
              rfl
            rw [this]
            omega
          refine seen_none (E := C8.E0) fun H5 e6 => ⟨_, rfl, rfl, _, rfl, ?_⟩
          exact hR _ (E1.trans (e3.trans (e4.trans (e5.trans e6))))
        · have hs17 := e17 _ _ hs16
          clear e17 hpt16 hs16
          try unfold tNext
          try dsimp only
          try refine sq1 ?_
          refine ⟨Nat.zero_le _, fun t1 n1 => ⟨(by show 1 ≤ sizeLine; decide), fun t2 n2 => ⟨(by show 3 ≤ sizeLine; decide), fun t3 n3 => ?_⟩⟩⟩
          obtain ⟨e1, r1⟩ := raw_at (K := K) (([] : List Int), [1], 1) n1 n2 n3
          change spLTab K CT _ (rws H17 t1 t2 t3 (([] : List Int), [1], 1)) _ _
          generalize rws H17 t1 t2 t3 (([] : List Int), [1], 1) = H18 at *
          refine ⟨.ref t3, _, rfl, r1, good_one (show (0 : Int) ≤ 1 by decide) (show (0 : Int) ≤ 1 by decide), ⟨by decide, by decide, by decide, by decide⟩, fun H19 u1 b1 e2 hp1 hu1 => ?_⟩
          obtain rfl := plain_one hp1
          refine ⟨(by show 2 ≤ sizeLine; decide), fun t4 n4 => ⟨Nat.zero_le _, fun t5 n5 => ⟨(by show 3 ≤ sizeLine; decide), fun t6 n6 => ?_⟩⟩⟩
          obtain ⟨e3, r3⟩ := raw_at (K := K) (([0, 1] : List Int), [], 0) n4 n5 n6
          change spLTab K CT _ (rws H19 t4 t5 t6 (([0, 1] : List Int), [], 0)) _ _
          generalize rws H19 t4 t5 t6 (([0, 1] : List Int), [], 0) = H20 at *
          refine ⟨.ref t6, _, rfl, r3, ended01.good, ended01.sz (by omega), fun H21 u2 b2 e4 hp2 hu2 => ?_⟩
          obtain rfl := plain_end hp2
          have hu1' := (hu1.ex e3).ex e4
          have hs21 := e4 _ _ (e3 _ _ (e2 _ _ (e1 _ _ hs17)))
          clear e1 e2 e3 e4 r1 r3 n1 n2 n3 n4 n5 n6 hs17 hp1 hp2 hu1
          refine ⟨_, _, rfl, ?_⟩
          try dsimp only
          try refine sq1 ?_
          refine fr_fb ?_
          refine ⟨_, rfl, _, rfl, (by show 2 ≤ sizeLine; decide), fun p1 h1 => ?_⟩
          have f1 : Ex H21 (upd H21 p1 (.lst [.ref u1, .ref u2])) := Evl.Ex.new h1
          have g1 : upd H21 p1 (.lst [.ref u1, .ref u2]) p1 = some (.lst ([u1, u2].map V.ref)) := upd_same
          generalize upd H21 p1 (.lst [.ref u1, .ref u2]) = H22 at *
          refine ⟨_, rfl, (by show 1 ≤ sizeLine; decide), fun t1 n1 => ⟨Nat.zero_le _, fun t2 n2 => ⟨(by show 3 ≤ sizeLine; decide), fun t3 n3 => ?_⟩⟩⟩
          obtain ⟨f2, r2⟩ := raw_at (K := K) (([0] : List Int), [], 0) n1 n2 n3
          change spLTab K CT _ (rws H22 t1 t2 t3 (([0] : List Int), [], 0)) _ _
          generalize rws H22 t1 t2 t3 (([0] : List Int), [], 0) = H23 at *
          refine ⟨.ref t3, _, rfl, r2, ended0.good, ended0.sz (by omega), fun H24 u3 b3 f3 hp3 hu3 => ?_⟩
          obtain rfl := plain_end hp3
          refine ⟨(by show 2 ≤ sizeLine; decide), fun p2 h2 => ?_⟩
          have f4 : Ex H24 (upd H24 p2 (.lst [.ref u2, .ref u3])) := Evl.Ex.new h2
          have g2 : upd H24 p2 (.lst [.ref u2, .ref u3]) p2 = some (.lst ([u2, u3].map V.ref)) := upd_same
          generalize upd H24 p2 (.lst [.ref u2, .ref u3]) = H25 at *
          refine ⟨_, rfl, _, rfl, _, rfl, (by show 3 ≤ sizeLine; decide), fun p3 h3 => ?_⟩
          have f5 : Ex H25 (upd H25 p3 (.lst [.ref u2, .ref u2, .ref u1])) := Evl.Ex.new h3
          have g3 : upd H25 p3 (.lst [.ref u2, .ref u2, .ref u1]) p3 = some (.lst ([u2, u2, u1].map V.ref)) := upd_same
          generalize upd H25 p3 (.lst [.ref u2, .ref u2, .ref u1]) = H26 at *
          refine ⟨(by show 3 ≤ sizeLine; decide), fun pw h4 => ?_⟩
          have f6 : Ex H26 (upd H26 pw (.lst [.ref p1, .ref p2, .ref p3])) := Evl.Ex.new h4
          have g4 : upd H26 pw (.lst [.ref p1, .ref p2, .ref p3]) pw = some (.lst ([p1, p2, p3].map V.ref)) := upd_same
          generalize upd H26 pw (.lst [.ref p1, .ref p2, .ref p3]) = H27 at *
          have F1 := f2.trans (f3.trans (f4.trans (f5.trans f6)))
          have a1 := hu1'.ex (f1.trans F1)
          have a2 := hu2.ex (f1.trans F1)
          have a3 := hu3.ex (f4.trans (f5.trans f6))
          have rows : ∀ (i : Nat) x, ([p1, p2, p3].map V.ref)[i]? = some x → ∃ (p : Addr) (ts' : List Addr) (bs' : List Raw), x = .ref p ∧ H27 p = some (.lst (ts'.map V.ref)) ∧ TabsAt K CT H27 ts' bs' ∧ 1 ≤ bs'.length ∧ bs'.length ≤ 3 ∧ ∃ b ∈ bs', endOf b ≠ endOf (bs'.getD 0 ([], [], 0)) := by
            intro i x hx
            match i with
            | 0 =>
              obtain rfl := Option.some.inj hx
              exact ⟨p1, _, _, rfl, F1 _ _ g1, tabs_two a1 a2, by decide, by decide, _, List.mem_cons_of_mem _ List.mem_cons_self, by decide⟩
            | 1 =>
              obtain rfl := Option.some.inj hx
              exact ⟨p2, _, _, rfl, f6 _ _ (f5 _ _ g2), tabs_two a2 a3, by decide, by decide, _, List.mem_cons_of_mem _ List.mem_cons_self, by decide⟩
            | 2 =>
              obtain rfl := Option.some.inj hx
              exact ⟨p3, _, _, rfl, f6 _ _ g3, tabs_three a2 a2 a1, by decide, by decide, _, List.mem_cons_of_mem _ (List.mem_cons_of_mem _ List.mem_cons_self), by decide⟩
            | n + 3 => simp at hx
          have hs27 := F1 _ _ (f1 _ _ hs21)
          clear f1 f2 f3 f4 f5 f6 F1 g1 g2 g3 h1 h2 h3 h4 n1 n2 n3 r2 hp3 hu3 hu2 hu1' hs21
          refine ⟨pw, rfl, ⟨_, sq_l g4⟩, fb_go wk_list (fun i σ' H' => ∃ x12 : Option V, σ' = [some (.ref a), some (.ref ps), some (.ref pr), some (.ref pt), some (.ref pm), some (.ref am), x6, x7, some (.int (d : Int)), some y, some (.ref u1), some (.ref u2), x12, none] ∧ Ex H27 H') ⟨none, rfl, Ex.r⟩ (fun i σ' H' _ ⟨_, _, e⟩ => sq_l (e _ _ g4)) ?_ ?_⟩
          · rintro i x σ' H28 hi hx ⟨x12, rfl, e28⟩
            obtain ⟨p, ts', bs', rfl, q1, q2, q3, q4, q5⟩ := rows i x hx
            refine gn1 ?_
            try dsimp only
            refine if_no (fun R hR => ?_) (fun H29 e29 => ?_)
            · refine ⟨_, rfl, ?_⟩
              refine seen_unlike (E := C8.E0) (e28 _ _ q1) (q2.ex e28) q3 q4 q5 fun H29 e29 => ⟨_, rfl, rfl, _, rfl, hR _ e29⟩
            · exact ⟨_, rfl, e28.trans e29⟩
          · rintro σ' H28 ⟨x12, rfl, e28⟩
            have b1 := a1.ex e28
            have b2 := a2.ex e28
            have hs28 := e28 _ _ hs27
            clear e28 rows g4 a1 a2 a3 hs27
            try dsimp only
            try refine sq1 ?_
            refine if_no (fun R hR => ?_) (fun H29 e29 => ?_)
            · refine ⟨_, rfl, _, rfl, (by show 2 ≤ sizeLine; decide), fun p1 h1 => ?_⟩
              have f1 : Ex H28 (upd H28 p1 (.lst [.ref u2, .ref u2])) := Evl.Ex.new h1
              refine seen_fit (E := C8.E0) (ts := [u2, u2]) (mx := 2) upd_same (tabs_two (b2.ex f1) (b2.ex f1)) (by show 1 ≤ 2; decide) (by show 2 ≤ 3; decide) (fit_two 2 (by omega) ended01 ended01) fun H30 f2 => ⟨rfl, _, rfl, if_f (by decide) ?_⟩
              have F2 := f1.trans f2
              refine ⟨_, rfl, (by show 2 ≤ sizeLine; decide), fun p2 h2 => ?_⟩
              have f3 : Ex H30 (upd H30 p2 (.lst [.ref u1, .non])) := Evl.Ex.new h2
              refine seen_bad (E := C8.E0) (k := 1) (y := .non) (T := "NoneType") upd_same (by show 1 ≤ 2; decide) (by show 2 ≤ 3; decide) rfl (.base .non) T.k_none (fun j hj => ?_) fun H31 f4 => ⟨rfl, _, rfl, hR _ (F2.trans (f3.trans f4))⟩
              obtain rfl : j = 0 := by omega
              exact ⟨u1, _, rfl, b1.ex (F2.trans f3)⟩
            · have hs29 := e29 _ _ hs28
              clear e29 b1 b2 hs28
              try dsimp only
              try refine sq1 ?_
              refine if_no (fun R hR => ?_) (fun H30 e30 => ?_)
              · refine ⟨Nat.zero_le _, fun t1 n1 => ⟨(by show 1 ≤ sizeLine; decide), fun t2 n2 => fun x dx nx nd ne => ?_⟩⟩
                have f1 : Ex H29 (upd H29 t1 (.tup (([] : List Int).map V.int))) := Evl.Ex.new n1
                have f2 : Ex (upd H29 t1 (.tup (([] : List Int).map V.int))) (upd (upd H29 t1 (.tup (([] : List Int).map V.int))) t2 (.tup (([597] : List Int).map V.int))) := Evl.Ex.new n2
                have em := made_ex0 (C := CT) nx nd
                refine ⟨x, dx, t1, t2, [], [597], 1, rfl, upd_same, .inr (Evl.ex_t (f2.trans em) (sq_t (H := upd H29 t1 (.tup (([] : List Int).map V.int))) upd_same)), .inr (Evl.ex_t em (sq_t (H := upd (upd H29 t1 (.tup (([] : List Int).map V.int))) t2 (.tup (([597] : List Int).map V.int))) upd_same)), ⟨by decide, by decide, by decide, by decide⟩, good_one (by decide) (by decide), fun b H30 kk hb ht => ⟨rfl, ?_⟩⟩
                obtain rfl := plain_one hb
                have F := f1.trans (f2.trans (made_ex nx nd kk))
                refine ⟨(by show 1 ≤ sizeLine; decide), fun p hp => ?_⟩
                have f3 : Ex H30 (upd H30 p (.lst [.ref x])) := Evl.Ex.new hp
                refine seen_fit (E := C8.E0) (ts := [x]) (bs := [(([] : List Int), [597], 1)]) (mx := 0) upd_same ⟨rfl, fun i u c hu hc => ?_⟩ (Nat.le_refl 1) (by show 1 ≤ 3; decide) fit_597 fun H31 f4 => ⟨rfl, _, rfl, hR _ (F.trans (f3.trans f4))⟩
                match i with
                | 0 =>
                  rw [← Option.some.inj hu, ← Option.some.inj hc]
                  exact ht.ex f3
                | n + 1 => simp at hu
              · have hs30 := e30 _ _ hs29
                clear e30 hs29
                try dsimp only
                refine rt1 (op1 ?_)
                refine ⟨Nat.zero_le _, fun t1 n1 => ?_⟩
                have f1 : Ex H30 (upd H30 t1 (.tup (([] : List Int).map V.int))) := Evl.Ex.new n1
                have g1 : upd H30 t1 (.tup (([] : List Int).map V.int)) t1 = some (.tup (([] : List Int).map V.int)) := upd_same
                change tTup _ _ (upd H30 t1 (.tup (([] : List Int).map V.int))) _
                generalize upd H30 t1 (.tup (([] : List Int).map V.int)) = H31 at *
                have nt1 : t1 ≠ ps := fun z => by rw [z, hs30] at n1; cases n1
                refine ⟨_, rfl, ps, _, _, _, 9, rfl, f1 _ _ hs30, by omega, by omega, fun H32 d9 n32 s32 c32 b32 hs32 hd9 => ⟨_, _, rfl, rfl, ?_⟩⟩
                have g32 := b32 _ _ nt1 g1
                have z1 : (600 : Int) < 700 + (d9 : Int) := by omega
                have z2 : (700 : Int) + (d9 : Int) < 2 ^ 50 := by omega
                have z3 : SzR (([] : List Int), [700 + (d9 : Int)], 701) := ⟨by show 0 ≤ 100000; decide, by show 1 ≤ 100000; decide, by show (0 : Int) ≤ 701; decide, by show (701 : Int) < 2 ^ 60; decide⟩
                dsimp only
                generalize (700 : Int) + (d9 : Int) = v at *
                refine ⟨(by show 1 ≤ sizeLine; decide), fun t2 n2 => fun x dx nx nd ne => ?_⟩
                have f2 : Ex H32 (upd H32 t2 (.tup (([v] : List Int).map V.int))) := Evl.Ex.new n2
                have em := made_ex0 (C := CT) nx nd
                refine ⟨x, dx, t1, t2, [], [v], 701, rfl, upd_same, .inr (sq_t (em _ _ (f2 _ _ g32))), .inr (Evl.ex_t em (sq_t (H := upd H32 t2 (.tup (([v] : List Int).map V.int))) upd_same)), z3, good_one (by omega) (by decide), fun b H33 kk hb ht => ⟨rfl, ?_⟩⟩
                obtain rfl := plain_one hb
                refine ⟨(by show 1 ≤ sizeLine; decide), fun p hp => ?_⟩
                have f3 : Ex H33 (upd H33 p (.lst [.ref x])) := Evl.Ex.new hp
                refine seen_many (E := C8.E0) upd_same (ht.ex f3) z1 z3 fun H34 f4 => ⟨rfl, ?_⟩
                exact q _
end
end K28
end
section
set_option Elab.async false
set_option linter.all false
set_option maxRecDepth 100000
set_option maxHeartbeats 0
open PySem PySem.W PyProof.Rows
open_top k28_head for PySem.Challenge.rw_needforth_k28_whole_makers_of_tables
end
section
set_option Elab.async false
set_option linter.all false
set_option maxRecDepth 100000
set_option maxHeartbeats 0
namespace K28
open PySem PySem.Spec PyProof.Rows L2
open Evl (Ex)
theorem kit_of {K : PySem.W.Frag} {C : Addr} {T : String} (h1 : PySem.W.isClsIn K C = true) (h2 : PySem.W.typeIn K (.ref C) = some (.type "type")) (h3 : PySem.W.subIn K (.type T) (.ref C) = some false) : PySem.W.kitOne K (.type T) (.ref C) = some false := by
  have h1' : (PySem.W.clsIn K C).isSome = true := h1
  have e : ((PySem.W.clsIn K C).isSome && PySem.W.typeIn K (.ref C) == some (.type "type")) = true := by rw [h1', h2] <;> rfl
  show (if (Value.type T == Value.ref C) = true then some true else (if ((PySem.W.clsIn K C).isSome && PySem.W.typeIn K (.ref C) == some (.type "type")) = true then PySem.W.subIn K (.type T) (.ref C) else none)) = some false
  rw [if_neg (by simp), if_pos e]
  exact h3
theorem says_num {P : Program} {w : World} {v : V} {v' : Value} {a b : Str} {p1 p2 p3 p4 p5 : Pos} (hv : numV v) (rv : L2.RelV v v') (ha : a.length ≤ 1000) (hb : b.length ≤ 1000) : K28X.Says P w (.JoinedStr [.Constant (.str a) 0 p1, .FormattedValue (.Name "number" p2) (-1) none p3, .Constant (.str b) 0 p4] p5) "number" v' := by
  obtain ⟨n, rfl, h1, h2⟩ := hv
  obtain ⟨t, rfl⟩ := rv
  refine K28X.says_int ?_ ha hb (by decide)
  have : n = -1 ∨ n = 0 ∨ n = 1 ∨ n = 2 ∨ n = 3 ∨ n = 4 ∨ n = 5 ∨ n = 6 ∨ n = 7 ∨ n = 8 ∨ n = 9 ∨ n = 10 := by omega
  rcases this with rfl | rfl | rfl | rfl | rfl | rfl | rfl | rfl | rfl | rfl | rfl | rfl <;> decide
theorem says_word {P : Program} {w : World} {v : V} {v' : Value} {a : Str} {p1 p2 p3 p5 : Pos} (hv : wordV v) (rv : L2.RelV v v') (ha : a.length ≤ 1000) : K28X.Says P w (.JoinedStr [.Constant (.str a) 0 p1, .FormattedValue (.Name "word" p2) (-1) none p3] p5) "word" v' := by
  have e : v = .str "deed" := hv
  subst e
  obtain ⟨t, rfl⟩ := rv
  exact K28X.says_str ha (by decide +kernel) (by decide)

theorem all_mk {l : PySem.W.OpenLaw} {w : World} {K : PySem.W.Frag} {h : Heap} {mg : Str → Option Value} {fa CT CM CB CF WN NE f1 f2 f3 f4 f5 f6 f7 f8 f9 f10 f11 f12 f13 f14 f15 f16 f17 f18 f19 f20 f21 f22 f23 f24 f25 f26 f27 f28 f29 f30 f31 f32 f33 f34 f35 f36 f37 f38 f39 f40 f41 f42 f43 f44 f45 f46 f47 f48 dT ev fIB caB ccB fIF caF ccF : Addr} (X : K.In h) (G : h.Ns mainGlobals mg) (hfa : mg "law" = some (.ref fa))
    {od1 an1 : Option Addr} {sl1 : Array (Option Value)} {oc1 kV1 dc1 pm1 cd1 ct1 : Value}
    {od2 an2 : Option Addr} {sl2 : Array (Option Value)} {oc2 kV2 dc2 pm2 cd2 ct2 : Value}
    {od3 an3 : Option Addr} {sl3 : Array (Option Value)} {oc3 kV3 dc3 pm3 cd3 ct3 : Value}
    {od4 an4 : Option Addr} {sl4 : Array (Option Value)} {oc4 kV4 dc4 pm4 cd4 ct4 : Value}
    {od5 an5 : Option Addr} {sl5 : Array (Option Value)} {oc5 kV5 dc5 pm5 cd5 ct5 : Value}
    {od6 an6 : Option Addr} {sl6 : Array (Option Value)} {oc6 kV6 dc6 pm6 cd6 ct6 : Value}
    {od7 an7 : Option Addr} {sl7 : Array (Option Value)} {oc7 kV7 dc7 pm7 cd7 ct7 : Value}
    {od8 an8 : Option Addr} {sl8 : Array (Option Value)} {oc8 kV8 dc8 pm8 cd8 ct8 : Value}
    {od9 an9 : Option Addr} {sl9 : Array (Option Value)} {oc9 kV9 dc9 pm9 cd9 ct9 : Value}
    {od10 an10 : Option Addr} {sl10 : Array (Option Value)} {oc10 kV10 dc10 pm10 cd10 ct10 : Value}
    {od11 an11 : Option Addr} {sl11 : Array (Option Value)} {oc11 kV11 dc11 pm11 cd11 ct11 : Value}
    {od12 an12 : Option Addr} {sl12 : Array (Option Value)} {oc12 kV12 dc12 pm12 cd12 ct12 : Value}
    {od13 an13 : Option Addr} {sl13 : Array (Option Value)} {oc13 kV13 dc13 pm13 cd13 ct13 : Value}
    {od14 an14 : Option Addr} {sl14 : Array (Option Value)} {oc14 kV14 dc14 pm14 cd14 ct14 : Value}
    {od15 an15 : Option Addr} {sl15 : Array (Option Value)} {oc15 kV15 dc15 pm15 cd15 ct15 : Value}
    {od16 an16 : Option Addr} {sl16 : Array (Option Value)} {oc16 kV16 dc16 pm16 cd16 ct16 : Value}
    {od17 an17 : Option Addr} {sl17 : Array (Option Value)} {oc17 kV17 dc17 pm17 cd17 ct17 : Value}
    {od18 an18 : Option Addr} {sl18 : Array (Option Value)} {oc18 kV18 dc18 pm18 cd18 ct18 : Value}
    {od19 an19 : Option Addr} {sl19 : Array (Option Value)} {oc19 kV19 dc19 pm19 cd19 ct19 : Value}
    {od20 an20 : Option Addr} {sl20 : Array (Option Value)} {oc20 kV20 dc20 pm20 cd20 ct20 : Value}
    {od21 an21 : Option Addr} {sl21 : Array (Option Value)} {oc21 kV21 dc21 pm21 cd21 ct21 : Value}
    {od22 an22 : Option Addr} {sl22 : Array (Option Value)} {oc22 kV22 dc22 pm22 cd22 ct22 : Value}
    {od23 an23 : Option Addr} {sl23 : Array (Option Value)} {oc23 kV23 dc23 pm23 cd23 ct23 : Value}
    {od24 an24 : Option Addr} {sl24 : Array (Option Value)} {oc24 kV24 dc24 pm24 cd24 ct24 : Value}
    {od25 an25 : Option Addr} {sl25 : Array (Option Value)} {oc25 kV25 dc25 pm25 cd25 ct25 : Value}
    {od26 an26 : Option Addr} {sl26 : Array (Option Value)} {oc26 kV26 dc26 pm26 cd26 ct26 : Value}
    {od27 an27 : Option Addr} {sl27 : Array (Option Value)} {oc27 kV27 dc27 pm27 cd27 ct27 : Value}
    {od28 an28 : Option Addr} {sl28 : Array (Option Value)} {oc28 kV28 dc28 pm28 cd28 ct28 : Value}
    {od29 an29 : Option Addr} {sl29 : Array (Option Value)} {oc29 kV29 dc29 pm29 cd29 ct29 : Value}
    {od30 an30 : Option Addr} {sl30 : Array (Option Value)} {oc30 kV30 dc30 pm30 cd30 ct30 : Value}
    {od31 an31 : Option Addr} {sl31 : Array (Option Value)} {oc31 kV31 dc31 pm31 cd31 ct31 : Value}
    {od32 an32 : Option Addr} {sl32 : Array (Option Value)} {oc32 kV32 dc32 pm32 cd32 ct32 : Value}
    {od33 an33 : Option Addr} {sl33 : Array (Option Value)} {oc33 kV33 dc33 pm33 cd33 ct33 : Value}
    {od34 an34 : Option Addr} {sl34 : Array (Option Value)} {oc34 kV34 dc34 pm34 cd34 ct34 : Value}
    {od35 an35 : Option Addr} {sl35 : Array (Option Value)} {oc35 kV35 dc35 pm35 cd35 ct35 : Value}
    {od36 an36 : Option Addr} {sl36 : Array (Option Value)} {oc36 kV36 dc36 pm36 cd36 ct36 : Value}
    {od37 an37 : Option Addr} {sl37 : Array (Option Value)} {oc37 kV37 dc37 pm37 cd37 ct37 : Value}
    {od38 an38 : Option Addr} {sl38 : Array (Option Value)} {oc38 kV38 dc38 pm38 cd38 ct38 : Value}
    {od39 an39 : Option Addr} {sl39 : Array (Option Value)} {oc39 kV39 dc39 pm39 cd39 ct39 : Value}
    {od40 an40 : Option Addr} {sl40 : Array (Option Value)} {oc40 kV40 dc40 pm40 cd40 ct40 : Value}
    {od41 an41 : Option Addr} {sl41 : Array (Option Value)} {oc41 kV41 dc41 pm41 cd41 ct41 : Value}
    {od42 an42 : Option Addr} {sl42 : Array (Option Value)} {oc42 kV42 dc42 pm42 cd42 ct42 : Value}
    {od43 an43 : Option Addr} {sl43 : Array (Option Value)} {oc43 kV43 dc43 pm43 cd43 ct43 : Value}
    {od44 an44 : Option Addr} {sl44 : Array (Option Value)} {oc44 kV44 dc44 pm44 cd44 ct44 : Value}
    {od45 an45 : Option Addr} {sl45 : Array (Option Value)} {oc45 kV45 dc45 pm45 cd45 ct45 : Value}
    {od46 an46 : Option Addr} {sl46 : Array (Option Value)} {oc46 kV46 dc46 pm46 cd46 ct46 : Value}
    {od47 an47 : Option Addr} {sl47 : Array (Option Value)} {oc47 kV47 dc47 pm47 cd47 ct47 : Value}
    {od48 an48 : Option Addr} {sl48 : Array (Option Value)} {oc48 kV48 dc48 pm48 cd48 ct48 : Value}
    {dcl : Value} {ddd edd : Option Addr} {dn en : Nat} {t0 : Tok} {dsl esl : Array (Option Value)}
    {tG t1 t2 t3 t4 t5 t6 : Tok}
    {nmB qB : Str} {NB : Addr} {bsB : List Value} {snB : List Str} {subB : List Value} {abB : Bool} {colB : Option Bool} {ddB : Option Addr} {kaB kbB kcB kdB keB : Option Value}
    {ocB dcB pmB ctB cclB cleB : Value} {odB anB cddB cldB : Option Addr} {oslB ccsB cslB : Array (Option Value)} {vsB : Array Value} {flB : Str} {tfB : Tok} {p0B p1B p2B p3B p4B p5B p6B p7B p8B r0B r1B r2B r3B r4B r5B r6B : Pos} {saB sbB : Str}
    {nmF qF : Str} {NF : Addr} {bsF : List Value} {snF : List Str} {subF : List Value} {abF : Bool} {colF : Option Bool} {ddF : Option Addr} {kaF kbF kcF kdF keF : Option Value}
    {ocF dcF pmF ctF cclF cleF : Value} {odF anF cddF cldF : Option Addr} {oslF ccsF cslF : Array (Option Value)} {vsF : Array Value} {flF : Str} {tfF : Tok} {p0F p1F p2F p3F p4F p5F p6F p7F p8F r0F r1F r2F r4F r5F r6F : Pos} {saF : Str}
    (gTable : PySem.W.nsIn K mainGlobals "Table" = some (some (.ref CT)))
    (gMaker : PySem.W.nsIn K mainGlobals "Maker" = some (some (.ref CM)))
    (gBadTables : PySem.W.nsIn K mainGlobals "BadTables" = some (some (.ref CB)))
    (gTooMany : PySem.W.nsIn K mainGlobals "TooMany" = some (some (.ref CF)))
    (a1 : PySem.W.nsIn K mainGlobals "is_integer" = some (some (.ref f1)))
    (l1 : K.lookup f1 = some ⟨oc1, od1, .func (PySem.W.fnOf "is_integer" "is_integer" (defArgs s_is_integer) (defBody s_is_integer) (defScope s_is_integer) .none kV1 dc1 pm1 an1 cd1 ct1), sl1⟩)
    (c1 : PySem.W.codeIn K cd1 "is_integer" = true)
    (k1 : PySem.W.keepIn K (.ref f1) = true)
    (a2 : PySem.W.nsIn K mainGlobals "is_count" = some (some (.ref f2)))
    (l2 : K.lookup f2 = some ⟨oc2, od2, .func (PySem.W.fnOf "is_count" "is_count" (defArgs s_is_count) (defBody s_is_count) (defScope s_is_count) .none kV2 dc2 pm2 an2 cd2 ct2), sl2⟩)
    (c2 : PySem.W.codeIn K cd2 "is_count" = true)
    (k2 : PySem.W.keepIn K (.ref f2) = true)
    (a3 : PySem.W.nsIn K mainGlobals "is_listed" = some (some (.ref f3)))
    (l3 : K.lookup f3 = some ⟨oc3, od3, .func (PySem.W.fnOf "is_listed" "is_listed" (defArgs s_is_listed) (defBody s_is_listed) (defScope s_is_listed) .none kV3 dc3 pm3 an3 cd3 ct3), sl3⟩)
    (c3 : PySem.W.codeIn K cd3 "is_listed" = true)
    (k3 : PySem.W.keepIn K (.ref f3) = true)
    (a4 : PySem.W.nsIn K mainGlobals "is_counts" = some (some (.ref f4)))
    (l4 : K.lookup f4 = some ⟨oc4, od4, .func (PySem.W.fnOf "is_counts" "is_counts" (defArgs s_is_counts) (defBody s_is_counts) (defScope s_is_counts) .none kV4 dc4 pm4 an4 cd4 ct4), sl4⟩)
    (c4 : PySem.W.codeIn K cd4 "is_counts" = true)
    (k4 : PySem.W.keepIn K (.ref f4) = true)
    (a5 : PySem.W.nsIn K mainGlobals "deep" = some (some (.ref f5)))
    (l5 : K.lookup f5 = some ⟨oc5, od5, .func (PySem.W.fnOf "deep" "deep" (defArgs s_deep) (defBody s_deep) (defScope s_deep) .none kV5 dc5 pm5 an5 cd5 ct5), sl5⟩)
    (c5 : PySem.W.codeIn K cd5 "deep" = true)
    (k5 : PySem.W.keepIn K (.ref f5) = true)
    (a6 : PySem.W.nsIn K mainGlobals "is_rising" = some (some (.ref f6)))
    (l6 : K.lookup f6 = some ⟨oc6, od6, .func (PySem.W.fnOf "is_rising" "is_rising" (defArgs s_is_rising) (defBody s_is_rising) (defScope s_is_rising) .none kV6 dc6 pm6 an6 cd6 ct6), sl6⟩)
    (c6 : PySem.W.codeIn K cd6 "is_rising" = true)
    (k6 : PySem.W.keepIn K (.ref f6) = true)
    (a7 : PySem.W.nsIn K mainGlobals "common_divisor" = some (some (.ref f7)))
    (l7 : K.lookup f7 = some ⟨oc7, od7, .func (PySem.W.fnOf "common_divisor" "common_divisor" (defArgs s_common_divisor) (defBody s_common_divisor) (defScope s_common_divisor) .none kV7 dc7 pm7 an7 cd7 ct7), sl7⟩)
    (c7 : PySem.W.codeIn K cd7 "common_divisor" = true)
    (k7 : PySem.W.keepIn K (.ref f7) = true)
    (a8 : PySem.W.nsIn K mainGlobals "common_multiple" = some (some (.ref f8)))
    (l8 : K.lookup f8 = some ⟨oc8, od8, .func (PySem.W.fnOf "common_multiple" "common_multiple" (defArgs s_common_multiple) (defBody s_common_multiple) (defScope s_common_multiple) .none kV8 dc8 pm8 an8 cd8 ct8), sl8⟩)
    (c8 : PySem.W.codeIn K cd8 "common_multiple" = true)
    (k8 : PySem.W.keepIn K (.ref f8) = true)
    (a9 : PySem.W.nsIn K mainGlobals "value_at" = some (some (.ref f9)))
    (l9 : K.lookup f9 = some ⟨oc9, od9, .func (PySem.W.fnOf "value_at" "value_at" (defArgs s_value_at) (defBody s_value_at) (defScope s_value_at) .none kV9 dc9 pm9 an9 cd9 ct9), sl9⟩)
    (c9 : PySem.W.codeIn K cd9 "value_at" = true)
    (k9 : PySem.W.keepIn K (.ref f9) = true)
    (a10 : PySem.W.nsIn K mainGlobals "short_loop" = some (some (.ref f10)))
    (l10 : K.lookup f10 = some ⟨oc10, od10, .func (PySem.W.fnOf "short_loop" "short_loop" (defArgs s_short_loop) (defBody s_short_loop) (defScope s_short_loop) .none kV10 dc10 pm10 an10 cd10 ct10), sl10⟩)
    (c10 : PySem.W.codeIn K cd10 "short_loop" = true)
    (k10 : PySem.W.keepIn K (.ref f10) = true)
    (a11 : PySem.W.nsIn K mainGlobals "plain_form" = some (some (.ref f11)))
    (l11 : K.lookup f11 = some ⟨oc11, od11, .func (PySem.W.fnOf "plain_form" "plain_form" (defArgs s_plain_form) (defBody s_plain_form) (defScope s_plain_form) .none kV11 dc11 pm11 an11 cd11 ct11), sl11⟩)
    (c11 : PySem.W.codeIn K cd11 "plain_form" = true)
    (k11 : PySem.W.keepIn K (.ref f11) = true)
    (a12 : PySem.W.nsIn K mainGlobals "checked_table" = some (some (.ref f12)))
    (l12 : K.lookup f12 = some ⟨oc12, od12, .func (PySem.W.fnOf "checked_table" "checked_table" (defArgs s_checked_table) (defBody s_checked_table) (defScope s_checked_table) .none kV12 dc12 pm12 an12 cd12 ct12), sl12⟩)
    (c12 : PySem.W.codeIn K cd12 "checked_table" = true)
    (k12 : PySem.W.keepIn K (.ref f12) = true)
    (a13 : PySem.W.nsIn K mainGlobals "is_deed" = some (some (.ref f13)))
    (l13 : K.lookup f13 = some ⟨oc13, od13, .func (PySem.W.fnOf "is_deed" "is_deed" (defArgs s_is_deed) (defBody s_is_deed) (defScope s_is_deed) .none kV13 dc13 pm13 an13 cd13 ct13), sl13⟩)
    (c13 : PySem.W.codeIn K cd13 "is_deed" = true)
    (k13 : PySem.W.keepIn K (.ref f13) = true)
    (a14 : PySem.W.nsIn K mainGlobals "is_deeds" = some (some (.ref f14)))
    (l14 : K.lookup f14 = some ⟨oc14, od14, .func (PySem.W.fnOf "is_deeds" "is_deeds" (defArgs s_is_deeds) (defBody s_is_deeds) (defScope s_is_deeds) .none kV14 dc14 pm14 an14 cd14 ct14), sl14⟩)
    (c14 : PySem.W.codeIn K cd14 "is_deeds" = true)
    (k14 : PySem.W.keepIn K (.ref f14) = true)
    (a15 : PySem.W.nsIn K mainGlobals "is_ways" = some (some (.ref f15)))
    (l15 : K.lookup f15 = some ⟨oc15, od15, .func (PySem.W.fnOf "is_ways" "is_ways" (defArgs s_is_ways) (defBody s_is_ways) (defScope s_is_ways) .none kV15 dc15 pm15 an15 cd15 ct15), sl15⟩)
    (c15 : PySem.W.codeIn K cd15 "is_ways" = true)
    (k15 : PySem.W.keepIn K (.ref f15) = true)
    (a16 : PySem.W.nsIn K mainGlobals "is_way_numbers" = some (some (.ref f16)))
    (l16 : K.lookup f16 = some ⟨oc16, od16, .func (PySem.W.fnOf "is_way_numbers" "is_way_numbers" (defArgs s_is_way_numbers) (defBody s_is_way_numbers) (defScope s_is_way_numbers) .none kV16 dc16 pm16 an16 cd16 ct16), sl16⟩)
    (c16 : PySem.W.codeIn K cd16 "is_way_numbers" = true)
    (k16 : PySem.W.keepIn K (.ref f16) = true)
    (a17 : PySem.W.nsIn K mainGlobals "is_course" = some (some (.ref f17)))
    (l17 : K.lookup f17 = some ⟨oc17, od17, .func (PySem.W.fnOf "is_course" "is_course" (defArgs s_is_course) (defBody s_is_course) (defScope s_is_course) .none kV17 dc17 pm17 an17 cd17 ct17), sl17⟩)
    (c17 : PySem.W.codeIn K cd17 "is_course" = true)
    (k17 : PySem.W.keepIn K (.ref f17) = true)
    (a18 : PySem.W.nsIn K mainGlobals "takes_ahead" = some (some (.ref f18)))
    (l18 : K.lookup f18 = some ⟨oc18, od18, .func (PySem.W.fnOf "takes_ahead" "takes_ahead" (defArgs s_takes_ahead) (defBody s_takes_ahead) (defScope s_takes_ahead) .none kV18 dc18 pm18 an18 cd18 ct18), sl18⟩)
    (c18 : PySem.W.codeIn K cd18 "takes_ahead" = true)
    (k18 : PySem.W.keepIn K (.ref f18) = true)
    (a19 : PySem.W.nsIn K mainGlobals "check_inlet" = some (some (.ref f19)))
    (l19 : K.lookup f19 = some ⟨oc19, od19, .func (PySem.W.fnOf "check_inlet" "check_inlet" (defArgs s_check_inlet) (defBody s_check_inlet) (defScope s_check_inlet) .none kV19 dc19 pm19 an19 cd19 ct19), sl19⟩)
    (c19 : PySem.W.codeIn K cd19 "check_inlet" = true)
    (k19 : PySem.W.keepIn K (.ref f19) = true)
    (a20 : PySem.W.nsIn K mainGlobals "need_on" = some (some (.ref f20)))
    (l20 : K.lookup f20 = some ⟨oc20, od20, .func (PySem.W.fnOf "need_on" "need_on" (defArgs s_need_on) (defBody s_need_on) (defScope s_need_on) .none kV20 dc20 pm20 an20 cd20 ct20), sl20⟩)
    (c20 : PySem.W.codeIn K cd20 "need_on" = true)
    (k20 : PySem.W.keepIn K (.ref f20) = true)
    (a21 : PySem.W.nsIn K mainGlobals "extreme" = some (some (.ref f21)))
    (l21 : K.lookup f21 = some ⟨oc21, od21, .func (PySem.W.fnOf "extreme" "extreme" (defArgs s_extreme) (defBody s_extreme) (defScope s_extreme) .none kV21 dc21 pm21 an21 cd21 ct21), sl21⟩)
    (c21 : PySem.W.codeIn K cd21 "extreme" = true)
    (k21 : PySem.W.keepIn K (.ref f21) = true)
    (a22 : PySem.W.nsIn K mainGlobals "least" = some (some (.ref f22)))
    (l22 : K.lookup f22 = some ⟨oc22, od22, .func (PySem.W.fnOf "least" "least" (defArgs s_least) (defBody s_least) (defScope s_least) .none kV22 dc22 pm22 an22 cd22 ct22), sl22⟩)
    (c22 : PySem.W.codeIn K cd22 "least" = true)
    (k22 : PySem.W.keepIn K (.ref f22) = true)
    (a23 : PySem.W.nsIn K mainGlobals "greatest" = some (some (.ref f23)))
    (l23 : K.lookup f23 = some ⟨oc23, od23, .func (PySem.W.fnOf "greatest" "greatest" (defArgs s_greatest) (defBody s_greatest) (defScope s_greatest) .none kV23 dc23 pm23 an23 cd23 ct23), sl23⟩)
    (c23 : PySem.W.codeIn K cd23 "greatest" = true)
    (k23 : PySem.W.keepIn K (.ref f23) = true)
    (a24 : PySem.W.nsIn K mainGlobals "check_lengths" = some (some (.ref f24)))
    (l24 : K.lookup f24 = some ⟨oc24, od24, .func (PySem.W.fnOf "check_lengths" "check_lengths" (defArgs s_check_lengths) (defBody s_check_lengths) (defScope s_check_lengths) .none kV24 dc24 pm24 an24 cd24 ct24), sl24⟩)
    (c24 : PySem.W.codeIn K cd24 "check_lengths" = true)
    (k24 : PySem.W.keepIn K (.ref f24) = true)
    (a25 : PySem.W.nsIn K mainGlobals "deeds_to" = some (some (.ref f25)))
    (l25 : K.lookup f25 = some ⟨oc25, od25, .func (PySem.W.fnOf "deeds_to" "deeds_to" (defArgs s_deeds_to) (defBody s_deeds_to) (defScope s_deeds_to) .none kV25 dc25 pm25 an25 cd25 ct25), sl25⟩)
    (c25 : PySem.W.codeIn K cd25 "deeds_to" = true)
    (k25 : PySem.W.keepIn K (.ref f25) = true)
    (a26 : PySem.W.nsIn K mainGlobals "maker_of" = some (some (.ref f26)))
    (l26 : K.lookup f26 = some ⟨oc26, od26, .func (PySem.W.fnOf "maker_of" "maker_of" (defArgs s_maker_of) (defBody s_maker_of) (defScope s_maker_of) .none kV26 dc26 pm26 an26 cd26 ct26), sl26⟩)
    (c26 : PySem.W.codeIn K cd26 "maker_of" = true)
    (k26 : PySem.W.keepIn K (.ref f26) = true)
    (a27 : PySem.W.nsIn K mainGlobals "_law_source" = some (some (.ref f27)))
    (l27 : K.lookup f27 = some ⟨oc27, od27, .func (PySem.W.fnOf "_law_source" "_law_source" (defArgs s__law_source) (defBody s__law_source) (defScope s__law_source) .none kV27 dc27 pm27 an27 cd27 ct27), sl27⟩)
    (c27 : PySem.W.codeIn K cd27 "_law_source" = true)
    (k27 : PySem.W.keepIn K (.ref f27) = true)
    (a28 : PySem.W.nsIn K mainGlobals "_law_pick" = some (some (.ref f28)))
    (l28 : K.lookup f28 = some ⟨oc28, od28, .func (PySem.W.fnOf "_law_pick" "_law_pick" (defArgs s__law_pick) (defBody s__law_pick) (defScope s__law_pick) .none kV28 dc28 pm28 an28 cd28 ct28), sl28⟩)
    (c28 : PySem.W.codeIn K cd28 "_law_pick" = true)
    (k28 : PySem.W.keepIn K (.ref f28) = true)
    (a29 : PySem.W.nsIn K mainGlobals "_law_is_integer" = some (some (.ref f29)))
    (l29 : K.lookup f29 = some ⟨oc29, od29, .func (PySem.W.fnOf "_law_is_integer" "_law_is_integer" (defArgs s__law_is_integer) (defBody s__law_is_integer) (defScope s__law_is_integer) .none kV29 dc29 pm29 an29 cd29 ct29), sl29⟩)
    (c29 : PySem.W.codeIn K cd29 "_law_is_integer" = true)
    (k29 : PySem.W.keepIn K (.ref f29) = true)
    (a30 : PySem.W.nsIn K mainGlobals "_law_is_count" = some (some (.ref f30)))
    (l30 : K.lookup f30 = some ⟨oc30, od30, .func (PySem.W.fnOf "_law_is_count" "_law_is_count" (defArgs s__law_is_count) (defBody s__law_is_count) (defScope s__law_is_count) .none kV30 dc30 pm30 an30 cd30 ct30), sl30⟩)
    (c30 : PySem.W.codeIn K cd30 "_law_is_count" = true)
    (k30 : PySem.W.keepIn K (.ref f30) = true)
    (a31 : PySem.W.nsIn K mainGlobals "_law_rising" = some (some (.ref f31)))
    (l31 : K.lookup f31 = some ⟨oc31, od31, .func (PySem.W.fnOf "_law_rising" "_law_rising" (defArgs s__law_rising) (defBody s__law_rising) (defScope s__law_rising) .none kV31 dc31 pm31 an31 cd31 ct31), sl31⟩)
    (c31 : PySem.W.codeIn K cd31 "_law_rising" = true)
    (k31 : PySem.W.keepIn K (.ref f31) = true)
    (a32 : PySem.W.nsIn K mainGlobals "_law_raw" = some (some (.ref f32)))
    (l32 : K.lookup f32 = some ⟨oc32, od32, .func (PySem.W.fnOf "_law_raw" "_law_raw" (defArgs s__law_raw) (defBody s__law_raw) (defScope s__law_raw) .none kV32 dc32 pm32 an32 cd32 ct32), sl32⟩)
    (c32 : PySem.W.codeIn K cd32 "_law_raw" = true)
    (k32 : PySem.W.keepIn K (.ref f32) = true)
    (a33 : PySem.W.nsIn K mainGlobals "_law_at" = some (some (.ref f33)))
    (l33 : K.lookup f33 = some ⟨oc33, od33, .func (PySem.W.fnOf "_law_at" "_law_at" (defArgs s__law_at) (defBody s__law_at) (defScope s__law_at) .none kV33 dc33 pm33 an33 cd33 ct33), sl33⟩)
    (c33 : PySem.W.codeIn K cd33 "_law_at" = true)
    (k33 : PySem.W.keepIn K (.ref f33) = true)
    (a34 : PySem.W.nsIn K mainGlobals "_law_counts" = some (some (.ref f34)))
    (l34 : K.lookup f34 = some ⟨oc34, od34, .func (PySem.W.fnOf "_law_counts" "_law_counts" (defArgs s__law_counts) (defBody s__law_counts) (defScope s__law_counts) .none kV34 dc34 pm34 an34 cd34 ct34), sl34⟩)
    (c34 : PySem.W.codeIn K cd34 "_law_counts" = true)
    (k34 : PySem.W.keepIn K (.ref f34) = true)
    (a35 : PySem.W.nsIn K mainGlobals "_law_ended" = some (some (.ref f35)))
    (l35 : K.lookup f35 = some ⟨oc35, od35, .func (PySem.W.fnOf "_law_ended" "_law_ended" (defArgs s__law_ended) (defBody s__law_ended) (defScope s__law_ended) .none kV35 dc35 pm35 an35 cd35 ct35), sl35⟩)
    (c35 : PySem.W.codeIn K cd35 "_law_ended" = true)
    (k35 : PySem.W.keepIn K (.ref f35) = true)
    (a36 : PySem.W.nsIn K mainGlobals "_law_tables" = some (some (.ref f36)))
    (l36 : K.lookup f36 = some ⟨oc36, od36, .func (PySem.W.fnOf "_law_tables" "_law_tables" (defArgs s__law_tables) (defBody s__law_tables) (defScope s__law_tables) .none kV36 dc36 pm36 an36 cd36 ct36), sl36⟩)
    (c36 : PySem.W.codeIn K cd36 "_law_tables" = true)
    (k36 : PySem.W.keepIn K (.ref f36) = true)
    (a37 : PySem.W.nsIn K mainGlobals "_law_plain" = some (some (.ref f37)))
    (l37 : K.lookup f37 = some ⟨oc37, od37, .func (PySem.W.fnOf "_law_plain" "_law_plain" (defArgs s__law_plain) (defBody s__law_plain) (defScope s__law_plain) .none kV37 dc37 pm37 an37 cd37 ct37), sl37⟩)
    (c37 : PySem.W.codeIn K cd37 "_law_plain" = true)
    (k37 : PySem.W.keepIn K (.ref f37) = true)
    (a38 : PySem.W.nsIn K mainGlobals "_law_ahead" = some (some (.ref f38)))
    (l38 : K.lookup f38 = some ⟨oc38, od38, .func (PySem.W.fnOf "_law_ahead" "_law_ahead" (defArgs s__law_ahead) (defBody s__law_ahead) (defScope s__law_ahead) .none kV38 dc38 pm38 an38 cd38 ct38), sl38⟩)
    (c38 : PySem.W.codeIn K cd38 "_law_ahead" = true)
    (k38 : PySem.W.keepIn K (.ref f38) = true)
    (a39 : PySem.W.nsIn K mainGlobals "_law_table" = some (some (.ref f39)))
    (l39 : K.lookup f39 = some ⟨oc39, od39, .func (PySem.W.fnOf "_law_table" "_law_table" (defArgs s__law_table) (defBody s__law_table) (defScope s__law_table) .none kV39 dc39 pm39 an39 cd39 ct39), sl39⟩)
    (c39 : PySem.W.codeIn K cd39 "_law_table" = true)
    (k39 : PySem.W.keepIn K (.ref f39) = true)
    (a40 : PySem.W.nsIn K mainGlobals "_law_same" = some (some (.ref f40)))
    (l40 : K.lookup f40 = some ⟨oc40, od40, .func (PySem.W.fnOf "_law_same" "_law_same" (defArgs s__law_same) (defBody s__law_same) (defScope s__law_same) .none kV40 dc40 pm40 an40 cd40 ct40), sl40⟩)
    (c40 : PySem.W.codeIn K cd40 "_law_same" = true)
    (k40 : PySem.W.keepIn K (.ref f40) = true)
    (a41 : PySem.W.nsIn K mainGlobals "_law_on" = some (some (.ref f41)))
    (l41 : K.lookup f41 = some ⟨oc41, od41, .func (PySem.W.fnOf "_law_on" "_law_on" (defArgs s__law_on) (defBody s__law_on) (defScope s__law_on) .none kV41 dc41 pm41 an41 cd41 ct41), sl41⟩)
    (c41 : PySem.W.codeIn K cd41 "_law_on" = true)
    (k41 : PySem.W.keepIn K (.ref f41) = true)
    (a42 : PySem.W.nsIn K mainGlobals "_law_seen" = some (some (.ref f42)))
    (l42 : K.lookup f42 = some ⟨oc42, od42, .func (PySem.W.fnOf "_law_seen" "_law_seen" (defArgs s__law_seen) (defBody s__law_seen) (defScope s__law_seen) .none kV42 dc42 pm42 an42 cd42 ct42), sl42⟩)
    (c42 : PySem.W.codeIn K cd42 "_law_seen" = true)
    (k42 : PySem.W.keepIn K (.ref f42) = true)
    (a43 : PySem.W.nsIn K mainGlobals "law" = some (some (.ref f43)))
    (l43 : K.lookup f43 = some ⟨oc43, od43, .func (PySem.W.fnOf "law" "law" (defArgs s_law) (defBody s_law) (defScope s_law) .none kV43 dc43 pm43 an43 cd43 ct43), sl43⟩)
    (c43 : PySem.W.codeIn K cd43 "law" = true)
    (k43 : PySem.W.keepIn K (.ref f43) = true)
    (a44 : PySem.W.findIn K (.ref CT) "__call__" = some (some (.ref f44)))
    (i44 : PySem.W.isFn K (.ref f44) = true)
    (l44 : K.lookup f44 = some ⟨oc44, od44, .func (PySem.W.fnOf "__call__" "Table.__call__" (defArgs s_Table_call) (defBody s_Table_call) (defScope s_Table_call) .none kV44 dc44 pm44 an44 cd44 ct44), sl44⟩)
    (c44 : PySem.W.codeIn K cd44 "Table.__call__" = true)
    (k44 : PySem.W.keepIn K (.ref f44) = true)
    (a45 : PySem.W.findIn K (.ref CT) "__eq__" = some (some (.ref f45)))
    (i45 : PySem.W.isFn K (.ref f45) = true)
    (l45 : K.lookup f45 = some ⟨oc45, od45, .func (PySem.W.fnOf "__eq__" "Table.__eq__" (defArgs s_Table_eq) (defBody s_Table_eq) (defScope s_Table_eq) .none kV45 dc45 pm45 an45 cd45 ct45), sl45⟩)
    (c45 : PySem.W.codeIn K cd45 "Table.__eq__" = true)
    (k45 : PySem.W.keepIn K (.ref f45) = true)
    (a46 : PySem.W.findIn K (.ref CM) "__init__" = some (some (.ref f46)))
    (i46 : PySem.W.isFn K (.ref f46) = true)
    (l46 : K.lookup f46 = some ⟨oc46, od46, .func (PySem.W.fnOf "__init__" "Maker.__init__" (defArgs s_Maker_init) (defBody s_Maker_init) (defScope s_Maker_init) .none kV46 dc46 pm46 an46 cd46 ct46), sl46⟩)
    (c46 : PySem.W.codeIn K cd46 "Maker.__init__" = true)
    (k46 : PySem.W.keepIn K (.ref f46) = true)
    (a47 : PySem.W.findIn K (.ref CM) "need" = some (some (.ref f47)))
    (i47 : PySem.W.isFn K (.ref f47) = true)
    (l47 : K.lookup f47 = some ⟨oc47, od47, .func (PySem.W.fnOf "need" "Maker.need" (defArgs s_Maker_need) (defBody s_Maker_need) (defScope s_Maker_need) .none kV47 dc47 pm47 an47 cd47 ct47), sl47⟩)
    (c47 : PySem.W.codeIn K cd47 "Maker.need" = true)
    (k47 : PySem.W.keepIn K (.ref f47) = true)
    (a48 : PySem.W.findIn K (.ref CT) "__init__" = some (some (.ref f48)))
    (i48 : PySem.W.isFn K (.ref f48) = true)
    (l48 : K.lookup f48 = some ⟨oc48, od48, .func (PySem.W.fnOf "__init__" "Table.__init__" (defArgs s_Table_init) (defBody s_Table_init) (defScope s_Table_init) (.ref dT) kV48 dc48 pm48 an48 cd48 ct48), sl48⟩)
    (c48 : PySem.W.codeIn K cd48 "Table.__init__" = true)
    (k48 : PySem.W.keepIn K (.ref f48) = true)
    (lD : K.lookup dT = some ⟨dcl, ddd, .seq #[.ref ev, .int 0 t0] dn, dsl⟩)
    (lE : K.lookup ev = some ⟨.type "tuple", edd, .seq #[] en, esl⟩)
    (fnCall : PySem.W.fnIn K f44 = true)
    (z_isinstance : PySem.W.nsIn K mainGlobals "isinstance" = some none)
    (z_int : PySem.W.nsIn K mainGlobals "int" = some none)
    (z_bool : PySem.W.nsIn K mainGlobals "bool" = some none)
    (z_str : PySem.W.nsIn K mainGlobals "str" = some none)
    (z_tuple : PySem.W.nsIn K mainGlobals "tuple" = some none)
    (z_list : PySem.W.nsIn K mainGlobals "list" = some none)
    (z_len : PySem.W.nsIn K mainGlobals "len" = some none)
    (z_all : PySem.W.nsIn K mainGlobals "all" = some none)
    (z_any : PySem.W.nsIn K mainGlobals "any" = some none)
    (z_max : PySem.W.nsIn K mainGlobals "max" = some none)
    (z_range : PySem.W.nsIn K mainGlobals "range" = some none)
    (z_enumerate : PySem.W.nsIn K mainGlobals "enumerate" = some none)
    (z_abs : PySem.W.nsIn K mainGlobals "abs" = some none)
    (z_super : PySem.W.nsIn K mainGlobals "super" = some none)
    (h_GIVE : PySem.W.nsIn K mainGlobals "GIVE" = some (some (.str "give" tG)))
    (h_MOST_INLETS : PySem.W.nsIn K mainGlobals "MOST_INLETS" = some (some (.int 3 t1)))
    (h_MOST_WAYS : PySem.W.nsIn K mainGlobals "MOST_WAYS" = some (some (.int 4 t2)))
    (h_MOST_DEEDS : PySem.W.nsIn K mainGlobals "MOST_DEEDS" = some (some (.int 600 t3)))
    (h_MOST_DEEDS_EACH : PySem.W.nsIn K mainGlobals "MOST_DEEDS_EACH" = some (some (.int 24 t4)))
    (h_MOST_FIRST : PySem.W.nsIn K mainGlobals "MOST_FIRST" = some (some (.int 200 t5)))
    (h_MOST_THEN : PySem.W.nsIn K mainGlobals "MOST_THEN" = some (some (.int 40 t6)))
    (pgT : PySem.W.plainGet K CT Str.empty = true)
    (hdT : PySem.W.hasDictIn K CT = true)
    (poT : PySem.W.plainOver K CT = true)
    (saT : PySem.W.findIn K (.ref CT) "__setattr__" = some (some (.builtin "object.__setattr__")))
    (haT : PySem.W.findIn K (.ref CT) "__class__" = some (some (.builtin "object.__class__")))
    (hmT : PySem.W.mroIn K CT (.type "object") = some true)
    (mkT : PySem.W.makesIn K CT = true)
    (kcT : PySem.W.keepIn K (.ref CT) = true)
    (pgM : PySem.W.plainGet K CM Str.empty = true)
    (hdM : PySem.W.hasDictIn K CM = true)
    (poM : PySem.W.plainOver K CM = true)
    (saM : PySem.W.findIn K (.ref CM) "__setattr__" = some (some (.builtin "object.__setattr__")))
    (haM : PySem.W.findIn K (.ref CM) "__class__" = some (some (.builtin "object.__class__")))
    (hmM : PySem.W.mroIn K CM (.type "object") = some true)
    (mkM : PySem.W.makesIn K CM = true)
    (kcM : PySem.W.keepIn K (.ref CM) = true)
    (hn : PySem.W.specialIn K (.builtin "object.__class__") "__get__" = some (some (.builtin "getset_descriptor.__get__")))
    (htk : PySem.W.takesIn K (.builtin "object.__class__") = some true)
    (n_head : PySem.W.findIn K (.ref CT) "head" = some none)
    (n_loop : PySem.W.findIn K (.ref CT) "loop" = some none)
    (n_rise : PySem.W.findIn K (.ref CT) "rise" = some none)
    (n_inlets : PySem.W.findIn K (.ref CM) "inlets" = some none)
    (n_begin : PySem.W.findIn K (.ref CM) "begin" = some none)
    (n_ways : PySem.W.findIn K (.ref CM) "ways" = some none)
    (isT : PySem.W.isClsIn K CT = true)
    (tyT : PySem.W.typeIn K (.ref CT) = some (.type "type"))
    (su_NoneType : PySem.W.subIn K (.type "NoneType") (.ref CT) = some false)
    (su_int : PySem.W.subIn K (.type "int") (.ref CT) = some false)
    (su_tuple : PySem.W.subIn K (.type "tuple") (.ref CT) = some false)
    (su_str : PySem.W.subIn K (.type "str") (.ref CT) = some false)
    (su_bool : PySem.W.subIn K (.type "bool") (.ref CT) = some false)
    (xLB : K.lookup CB = some (PySem.excClassObj nmB qB CB NB bsB [.ref WN, .ref NE, .type "ValueError", .type "Exception", .type "BaseException", .type "object"] true snB subB abB colB ddB kaB kbB kcB kdB keB "ValueError.__new__"))
    (xsB : PySem.W.findIn K (.ref CB) "__setattr__" = some (some (.builtin "object.__setattr__")))
    (xgB : PySem.W.findIn K (.ref CB) "__getattribute__" = some (some (.builtin "BaseException.__getattribute__")))
    (xhB : PySem.W.findIn K (.ref CB) "__getattr__" = some none)
    (xnB : PySem.W.findIn K (.ref CB) "number" = some none)
    (xiB : PySem.W.findIn K (.ref CB) "__init__" = some (some (.ref fIB)))
    (xtB : PySem.W.typeIn K (.ref fIB) = some (.type "function"))
    (xkB : PySem.W.keepIn K (.ref CB) = true)
    (xeB : PySem.W.subIn K (.ref CB) (.type "BaseException") = some true)
    (xvB : PySem.W.subIn K (.ref CB) (.type "ValueError") = some true)
    (xyB : PySem.W.typeIn K (.ref CB) = some (.type "type"))
    (xdB : PySem.W.hasDictIn K CB = true)
    (xcB : PySem.W.isClsIn K CB = true)
    (xuB : PySem.W.ks_superIn K CB WN "__init__" = some (some (.builtin "ValueError.__init__")))
    (xwB : PySem.W.isClsIn K WN = true)
    (xmB : PySem.W.mroIn K CB (.ref WN) = some true)
    (xlB : K.lookup fIB = some ⟨ocB, odB, .func (PySem.W.ksFn "__init__" "WrongNumber.__init__" ⟨[], [⟨"self", none, r5B⟩, ⟨"number", none, r6B⟩], none, [], [], none, []⟩ (K28X.iB (.JoinedStr [.Constant (.str saB) 0 r0B, .FormattedValue (.Name "number" r1B) (-1) none r2B, .Constant (.str sbB) 0 r3B] r4B) "number" p0B p1B p2B p3B p4B p5B p6B p7B p8B) (K28X.iSc "number") .none .none dcB pmB anB (.ref caB) ctB ccB), oslB⟩)
    (xoB : PySem.W.codeIn K (.ref caB) "WrongNumber.__init__" = true)
    (xpB : (p2B.endLine == p3B.line) = true)
    (xqB : K.lookup caB = some ⟨cclB, cddB, .fields vsB, ccsB⟩)
    (xrB : vsB[2]? = some (.str flB tfB))
    (xzB : ((l.prog.main.file : Str) == flB) = true)
    (xaB : K.lookup ccB = some ⟨cleB, cldB, .cell (some (.ref WN)), cslB⟩)
    (zsaB : saB.length ≤ 1000)
    (zsbB : sbB.length ≤ 1000)
    (xLF : K.lookup CF = some (PySem.excClassObj nmF qF CF NF bsF [.ref NE, .type "ValueError", .type "Exception", .type "BaseException", .type "object"] true snF subF abF colF ddF kaF kbF kcF kdF keF "ValueError.__new__"))
    (xsF : PySem.W.findIn K (.ref CF) "__setattr__" = some (some (.builtin "object.__setattr__")))
    (xgF : PySem.W.findIn K (.ref CF) "__getattribute__" = some (some (.builtin "BaseException.__getattribute__")))
    (xhF : PySem.W.findIn K (.ref CF) "__getattr__" = some none)
    (xnF : PySem.W.findIn K (.ref CF) "word" = some none)
    (xiF : PySem.W.findIn K (.ref CF) "__init__" = some (some (.ref fIF)))
    (xtF : PySem.W.typeIn K (.ref fIF) = some (.type "function"))
    (xkF : PySem.W.keepIn K (.ref CF) = true)
    (xeF : PySem.W.subIn K (.ref CF) (.type "BaseException") = some true)
    (xvF : PySem.W.subIn K (.ref CF) (.type "ValueError") = some true)
    (xyF : PySem.W.typeIn K (.ref CF) = some (.type "type"))
    (xdF : PySem.W.hasDictIn K CF = true)
    (xcF : PySem.W.isClsIn K CF = true)
    (xuF : PySem.W.ks_superIn K CF CF "__init__" = some (some (.builtin "ValueError.__init__")))
    (xwF : PySem.W.isClsIn K CF = true)
    (xmF : PySem.W.mroIn K CF (.ref CF) = some true)
    (xlF : K.lookup fIF = some ⟨ocF, odF, .func (PySem.W.ksFn "__init__" "TooMany.__init__" ⟨[], [⟨"self", none, r5F⟩, ⟨"word", none, r6F⟩], none, [], [], none, []⟩ (K28X.iB (.JoinedStr [.Constant (.str saF) 0 r0F, .FormattedValue (.Name "word" r1F) (-1) none r2F] r4F) "word" p0F p1F p2F p3F p4F p5F p6F p7F p8F) (K28X.iSc "word") .none .none dcF pmF anF (.ref caF) ctF ccF), oslF⟩)
    (xoF : PySem.W.codeIn K (.ref caF) "TooMany.__init__" = true)
    (xpF : (p2F.endLine == p3F.line) = true)
    (xqF : K.lookup caF = some ⟨cclF, cddF, .fields vsF, ccsF⟩)
    (xrF : vsF[2]? = some (.str flF tfF))
    (xzF : ((l.prog.main.file : Str) == flF) = true)
    (xaF : K.lookup ccF = some ⟨cleF, cldF, .cell (some (.ref CF)), cslF⟩)
    (zsaF : saF.length ≤ 1000)
    (opq : PySem.W.nsIn K cStatics "thirdparty.any" = some none)
    (tp : (l.prog.main.scope.names.lookup ("super" : Str)).isSome = false)
    (sBB : PySem.W.subIn K (.ref CB) (.ref CB) = some true)
    (sFB : PySem.W.subIn K (.ref CF) (.ref CB) = some false)
    (sFF : PySem.W.subIn K (.ref CF) (.ref CF) = some true) :
    ∃ fd : FuncData, (∀ (s : Shared) (u : Value), BindsTo s fd ⟨[u], []⟩ [("_law_script", u)]) ∧ ∀ base : Heap, K.In base → base.Ns mainGlobals mg → FnOk l.prog w K mg base CX0 13 fa fd ["_law_script"] (spLaw K) := by
  have e := hfa.symm.trans (PySem.W.mg_of X G a43)
  cases e
  have clT : Cls K CT := ⟨pgT, hdT, poT, saT⟩
  have clM : Cls K CM := ⟨pgM, hdM, poM, saM⟩
  have nsup := PySem.W.mg_none_of X G z_super
  have T : Txt K mg CT CM := { b_isinstance := PySem.W.mg_none_of X G z_isinstance, b_int := PySem.W.mg_none_of X G z_int, b_bool := PySem.W.mg_none_of X G z_bool, b_str := PySem.W.mg_none_of X G z_str, b_tuple := PySem.W.mg_none_of X G z_tuple, b_list := PySem.W.mg_none_of X G z_list, b_len := PySem.W.mg_none_of X G z_len, b_all := PySem.W.mg_none_of X G z_all, b_any := PySem.W.mg_none_of X G z_any, b_max := PySem.W.mg_none_of X G z_max, b_range := PySem.W.mg_none_of X G z_range, b_enumerate := PySem.W.mg_none_of X G z_enumerate, b_abs := PySem.W.mg_none_of X G z_abs, g_GIVE := ⟨_, PySem.W.mg_of X G h_GIVE, ⟨_, rfl⟩⟩, g_MOST_INLETS := ⟨_, PySem.W.mg_of X G h_MOST_INLETS, ⟨_, rfl⟩⟩, g_MOST_WAYS := ⟨_, PySem.W.mg_of X G h_MOST_WAYS, ⟨_, rfl⟩⟩, g_MOST_DEEDS := ⟨_, PySem.W.mg_of X G h_MOST_DEEDS, ⟨_, rfl⟩⟩, g_MOST_DEEDS_EACH := ⟨_, PySem.W.mg_of X G h_MOST_DEEDS_EACH, ⟨_, rfl⟩⟩, g_MOST_FIRST := ⟨_, PySem.W.mg_of X G h_MOST_FIRST, ⟨_, rfl⟩⟩, g_MOST_THEN := ⟨_, PySem.W.mg_of X G h_MOST_THEN, ⟨_, rfl⟩⟩, g_Table := ⟨_, PySem.W.mg_of X G gTable, rfl⟩, g_Maker := ⟨_, PySem.W.mg_of X G gMaker, rfl⟩, clT := clT, clM := clM, isT := ⟨clT, haT, hn, htk, hmT, kit_own _⟩, isM := ⟨clM, haM, hn, htk, hmM, kit_own _⟩, t_head := n_head, t_loop := n_loop, t_rise := n_rise, m_inlets := n_inlets, m_begin := n_begin, m_ways := n_ways, k_none := kit_of isT tyT su_NoneType, k_int := kit_of isT tyT su_int, k_tuple := kit_of isT tyT su_tuple, k_str := kit_of isT tyT su_str, k_bool := kit_of isT tyT su_bool }
  have xc_BadTables : Exc l.prog w K mg "BadTables" CB "number" numV :=
    ⟨⟨WN, fIB, _, _, { cls := ⟨_, _, _, _, _, _, _, _, _, _, _, _, _, _, _, xLB, by rfl⟩, sa := xsB, noN := xnB, iC := xiB, tC := xtB, kC := xkB, exC := xeB, veC := xvB, tyC := xyB, sup := xuB, clD := Option.isSome_iff_exists.mp xwB, subD := xmB, noS := z_super, opq := opq, top := tp, fn := ⟨_, _, _, _, _, _, _, _, _, _, _, _, _, _, _, _, _, _, _, _, xlB, xoB, xpB, ⟨_, rfl, rfl⟩, fun _ _ _ => BindsTo.of_eq (by first | rfl | with_unfolding_all rfl), ⟨_, _, _, _, _, _, xqB, xrB, xzB⟩, ⟨_, _, _, xaB⟩⟩, fne := by decide +kernel, fnc := by decide +kernel, fns := by decide +kernel, fnd := by decide }, fun v v' hv rv => says_num hv rv zsaB zsbB⟩, PySem.W.mg_of X G gBadTables, nsup⟩
  have xc_TooMany : Exc l.prog w K mg "TooMany" CF "word" wordV :=
    ⟨⟨CF, fIF, _, _, { cls := ⟨_, _, _, _, _, _, _, _, _, _, _, _, _, _, _, xLF, by rfl⟩, sa := xsF, noN := xnF, iC := xiF, tC := xtF, kC := xkF, exC := xeF, veC := xvF, tyC := xyF, sup := xuF, clD := Option.isSome_iff_exists.mp xwF, subD := xmF, noS := z_super, opq := opq, top := tp, fn := ⟨_, _, _, _, _, _, _, _, _, _, _, _, _, _, _, _, _, _, _, _, xlF, xoF, xpF, ⟨_, rfl, rfl⟩, fun _ _ _ => BindsTo.of_eq (by first | rfl | with_unfolding_all rfl), ⟨_, _, _, _, _, _, xqF, xrF, xzF⟩, ⟨_, _, _, xaF⟩⟩, fne := by decide +kernel, fnc := by decide +kernel, fns := by decide +kernel, fnd := by decide }, fun v v' hv rv => says_word hv rv zsaF⟩, PySem.W.mg_of X G gTooMany, nsup⟩
  have xf_number : EFld K CB "number" := ⟨xgB, xhB, xeB, xdB, xnB⟩
  have xf_word : EFld K CF "word" := ⟨xgF, xhF, xeF, xdF, xnF⟩
  have hBB := exm_of xeB xcB xyB sBB
  have hFB := exm_of xeB xcB xyB sFB
  have hFF := exm_of xeF xcF xyF sFF
  have F1 := fun_mk (st := s_is_integer) l1 c1 k1
  have m1 := PySem.W.mg_of X G a1
  have b1 := F1.binds (ps := ["thing"]) fun _ _ _ _ _ _ us hl => match us, hl with | [_], _ => rfl
  have F2 := fun_mk (st := s_is_count) l2 c2 k2
  have m2 := PySem.W.mg_of X G a2
  have b2 := F2.binds (ps := ["thing"]) fun _ _ _ _ _ _ us hl => match us, hl with | [_], _ => rfl
  have F3 := fun_mk (st := s_is_listed) l3 c3 k3
  have m3 := PySem.W.mg_of X G a3
  have b3 := F3.binds (ps := ["thing"]) fun _ _ _ _ _ _ us hl => match us, hl with | [_], _ => rfl
  have F4 := fun_mk (st := s_is_counts) l4 c4 k4
  have m4 := PySem.W.mg_of X G a4
  have b4 := F4.binds (ps := ["thing"]) fun _ _ _ _ _ _ us hl => match us, hl with | [_], _ => rfl
  have F5 := fun_mk (st := s_deep) l5 c5 k5
  have m5 := PySem.W.mg_of X G a5
  have b5 := F5.binds (ps := ["thing"]) fun _ _ _ _ _ _ us hl => match us, hl with | [_], _ => rfl
  have F6 := fun_mk (st := s_is_rising) l6 c6 k6
  have m6 := PySem.W.mg_of X G a6
  have b6 := F6.binds (ps := ["counts"]) fun _ _ _ _ _ _ us hl => match us, hl with | [_], _ => rfl
  have F7 := fun_mk (st := s_common_divisor) l7 c7 k7
  have m7 := PySem.W.mg_of X G a7
  have b7 := F7.binds (ps := ["one", "other"]) fun _ _ _ _ _ _ us hl => match us, hl with | [_, _], _ => rfl
  have F8 := fun_mk (st := s_common_multiple) l8 c8 k8
  have m8 := PySem.W.mg_of X G a8
  have b8 := F8.binds (ps := ["one", "other"]) fun _ _ _ _ _ _ us hl => match us, hl with | [_, _], _ => rfl
  have F9 := fun_mk (st := s_value_at) l9 c9 k9
  have m9 := PySem.W.mg_of X G a9
  have b9 := F9.binds (ps := ["raw", "place"]) fun _ _ _ _ _ _ us hl => match us, hl with | [_, _], _ => rfl
  have F10 := fun_mk (st := s_short_loop) l10 c10 k10
  have m10 := PySem.W.mg_of X G a10
  have b10 := F10.binds (ps := ["loop", "rise"]) fun _ _ _ _ _ _ us hl => match us, hl with | [_, _], _ => rfl
  have F11 := fun_mk (st := s_plain_form) l11 c11 k11
  have m11 := PySem.W.mg_of X G a11
  have b11 := F11.binds (ps := ["head", "loop", "rise"]) fun _ _ _ _ _ _ us hl => match us, hl with | [_, _, _], _ => rfl
  have F12 := fun_mk (st := s_checked_table) l12 c12 k12
  have m12 := PySem.W.mg_of X G a12
  have b12 := F12.binds (ps := ["head", "loop", "rise"]) fun _ _ _ _ _ _ us hl => match us, hl with | [_, _, _], _ => rfl
  have F13 := fun_mk (st := s_is_deed) l13 c13 k13
  have m13 := PySem.W.mg_of X G a13
  have b13 := F13.binds (ps := ["inlets", "thing"]) fun _ _ _ _ _ _ us hl => match us, hl with | [_, _], _ => rfl
  have F14 := fun_mk (st := s_is_deeds) l14 c14 k14
  have m14 := PySem.W.mg_of X G a14
  have b14 := F14.binds (ps := ["inlets", "thing"]) fun _ _ _ _ _ _ us hl => match us, hl with | [_, _], _ => rfl
  have F15 := fun_mk (st := s_is_ways) l15 c15 k15
  have m15 := PySem.W.mg_of X G a15
  have b15 := F15.binds (ps := ["inlets", "thing"]) fun _ _ _ _ _ _ us hl => match us, hl with | [_, _], _ => rfl
  have F16 := fun_mk (st := s_is_way_numbers) l16 c16 k16
  have m16 := PySem.W.mg_of X G a16
  have b16 := F16.binds (ps := ["thing", "ways", "least", "most"]) fun _ _ _ _ _ _ us hl => match us, hl with | [_, _, _, _], _ => rfl
  have F17 := fun_mk (st := s_is_course) l17 c17 k17
  have m17 := PySem.W.mg_of X G a17
  have b17 := F17.binds (ps := ["maker", "thing"]) fun _ _ _ _ _ _ us hl => match us, hl with | [_, _], _ => rfl
  have F18 := fun_mk (st := s_takes_ahead) l18 c18 k18
  have m18 := PySem.W.mg_of X G a18
  have b18 := F18.binds (ps := ["deeds", "inlet"]) fun _ _ _ _ _ _ us hl => match us, hl with | [_, _], _ => rfl
  have F19 := fun_mk (st := s_check_inlet) l19 c19 k19
  have m19 := PySem.W.mg_of X G a19
  have b19 := F19.binds (ps := ["maker", "inlet"]) fun _ _ _ _ _ _ us hl => match us, hl with | [_, _], _ => rfl
  have F20 := fun_mk (st := s_need_on) l20 c20 k20
  have m20 := PySem.W.mg_of X G a20
  have b20 := F20.binds (ps := ["maker", "inlet", "course"]) fun _ _ _ _ _ _ us hl => match us, hl with | [_, _, _], _ => rfl
  have F21 := fun_mk (st := s_extreme) l21 c21 k21
  have m21 := PySem.W.mg_of X G a21
  have b21 := F21.binds (ps := ["maker", "inlet", "most"]) fun _ _ _ _ _ _ us hl => match us, hl with | [_, _, _], _ => rfl
  have F22 := fun_mk (st := s_least) l22 c22 k22
  have m22 := PySem.W.mg_of X G a22
  have b22 := F22.binds (ps := ["maker", "inlet"]) fun _ _ _ _ _ _ us hl => match us, hl with | [_, _], _ => rfl
  have F23 := fun_mk (st := s_greatest) l23 c23 k23
  have m23 := PySem.W.mg_of X G a23
  have b23 := F23.binds (ps := ["maker", "inlet"]) fun _ _ _ _ _ _ us hl => match us, hl with | [_, _], _ => rfl
  have F24 := fun_mk (st := s_check_lengths) l24 c24 k24
  have m24 := PySem.W.mg_of X G a24
  have b24 := F24.binds (ps := ["tables"]) fun _ _ _ _ _ _ us hl => match us, hl with | [_], _ => rfl
  have F25 := fun_mk (st := s_deeds_to) l25 c25 k25
  have m25 := PySem.W.mg_of X G a25
  have b25 := F25.binds (ps := ["tables", "taken", "place"]) fun _ _ _ _ _ _ us hl => match us, hl with | [_, _, _], _ => rfl
  have F26 := fun_mk (st := s_maker_of) l26 c26 k26
  have m26 := PySem.W.mg_of X G a26
  have b26 := F26.binds (ps := ["tables"]) fun _ _ _ _ _ _ us hl => match us, hl with | [_], _ => rfl
  have F27 := fun_mk (st := s__law_source) l27 c27 k27
  have m27 := PySem.W.mg_of X G a27
  have b27 := F27.binds (ps := ["_law_script", "_law_place"]) fun _ _ _ _ _ _ us hl => match us, hl with | [_, _], _ => rfl
  have F28 := fun_mk (st := s__law_pick) l28 c28 k28
  have m28 := PySem.W.mg_of X G a28
  have b28 := F28.binds (ps := ["_law_source_here", "_law_many"]) fun _ _ _ _ _ _ us hl => match us, hl with | [_, _], _ => rfl
  have F29 := fun_mk (st := s__law_is_integer) l29 c29 k29
  have m29 := PySem.W.mg_of X G a29
  have b29 := F29.binds (ps := ["_law_thing"]) fun _ _ _ _ _ _ us hl => match us, hl with | [_], _ => rfl
  have F30 := fun_mk (st := s__law_is_count) l30 c30 k30
  have m30 := PySem.W.mg_of X G a30
  have b30 := F30.binds (ps := ["_law_thing"]) fun _ _ _ _ _ _ us hl => match us, hl with | [_], _ => rfl
  have F31 := fun_mk (st := s__law_rising) l31 c31 k31
  have m31 := PySem.W.mg_of X G a31
  have b31 := F31.binds (ps := ["_law_source_here", "_law_many", "_law_low", "_law_steps"]) fun _ _ _ _ _ _ us hl => match us, hl with | [_, _, _, _], _ => rfl
  have F32 := fun_mk (st := s__law_raw) l32 c32 k32
  have m32 := PySem.W.mg_of X G a32
  have b32 := F32.binds (ps := ["_law_source_here", "_law_steady"]) fun _ _ _ _ _ _ us hl => match us, hl with | [_, _], _ => rfl
  have F33 := fun_mk (st := s__law_at) l33 c33 k33
  have m33 := PySem.W.mg_of X G a33
  have b33 := F33.binds (ps := ["_law_raw_here", "_law_place"]) fun _ _ _ _ _ _ us hl => match us, hl with | [_, _], _ => rfl
  have F34 := fun_mk (st := s__law_counts) l34 c34 k34
  have m34 := PySem.W.mg_of X G a34
  have b34 := F34.binds (ps := ["_law_values"]) fun _ _ _ _ _ _ us hl => match us, hl with | [_], _ => rfl
  have F35 := fun_mk (st := s__law_ended) l35 c35 k35
  have m35 := PySem.W.mg_of X G a35
  have b35 := F35.binds (ps := ["_law_source_here", "_law_raw_here", "_law_upto"]) fun _ _ _ _ _ _ us hl => match us, hl with | [_, _, _], _ => rfl
  have F36 := fun_mk (st := s__law_tables) l36 c36 k36
  have m36 := PySem.W.mg_of X G a36
  have b36 := F36.binds (ps := ["_law_source_here"]) fun _ _ _ _ _ _ us hl => match us, hl with | [_], _ => rfl
  have F37 := fun_mk (st := s__law_plain) l37 c37 k37
  have m37 := PySem.W.mg_of X G a37
  have b37 := F37.binds (ps := ["_law_head", "_law_loop", "_law_rise"]) fun _ _ _ _ _ _ us hl => match us, hl with | [_, _, _], _ => rfl
  have F38 := fun_mk (st := s__law_ahead) l38 c38 k38
  have m38 := PySem.W.mg_of X G a38
  have b38 := F38.binds (ps := ["_law_deeds", "_law_inlet"]) fun _ _ _ _ _ _ us hl => match us, hl with | [_, _], _ => rfl
  have F39 := fun_mk (st := s__law_table) l39 c39 k39
  have m39 := PySem.W.mg_of X G a39
  have b39 := F39.binds (ps := ["_law_raw_here"]) fun _ _ _ _ _ _ us hl => match us, hl with | [_], _ => rfl
  have F40 := fun_mk (st := s__law_same) l40 c40 k40
  have m40 := PySem.W.mg_of X G a40
  have b40 := F40.binds (ps := ["_law_table_here", "_law_raw_here"]) fun _ _ _ _ _ _ us hl => match us, hl with | [_, _], _ => rfl
  have F41 := fun_mk (st := s__law_on) l41 c41 k41
  have m41 := PySem.W.mg_of X G a41
  have b41 := F41.binds (ps := ["_law_maker", "_law_inlet", "_law_course"]) fun _ _ _ _ _ _ us hl => match us, hl with | [_, _, _], _ => rfl
  have F42 := fun_mk (st := s__law_seen) l42 c42 k42
  have m42 := PySem.W.mg_of X G a42
  have b42 := F42.binds (ps := ["_law_tables_here"]) fun _ _ _ _ _ _ us hl => match us, hl with | [_], _ => rfl
  have F43 := fun_mk (st := s_law) l43 c43 k43
  have m43 := PySem.W.mg_of X G a43
  have b43 := F43.binds (ps := ["_law_script"]) fun _ _ _ _ _ _ us hl => match us, hl with | [_], _ => rfl
  have F44 := fun_mk (st := s_Table_call) l44 c44 k44
  have b44 := F44.binds (ps := ["self", "n"]) fun _ _ _ _ _ _ us hl => match us, hl with | [_, _], _ => rfl
  have F45 := fun_mk (st := s_Table_eq) l45 c45 k45
  have b45 := F45.binds (ps := ["self", "other"]) fun _ _ _ _ _ _ us hl => match us, hl with | [_, _], _ => rfl
  have F46 := fun_mk (st := s_Maker_init) l46 c46 k46
  have b46 := F46.binds (ps := ["self", "inlets", "begin", "ways"]) fun _ _ _ _ _ _ us hl => match us, hl with | [_, _, _, _], _ => rfl
  have F47 := fun_mk (st := s_Maker_need) l47 c47 k47
  have b47 := F47.binds (ps := ["self", "inlet", "course"]) fun _ _ _ _ _ _ us hl => match us, hl with | [_, _, _], _ => rfl
  have he : ∀ H : Hp, SqT K H ev [] := fun H => .inr ⟨_, #[], _, lE, rfl, rfl, Nat.zero_le _, .nil⟩
  have FT : FunD K "__init__" "Table.__init__" (defArgs s_Table_init) (defBody s_Table_init) (defScope s_Table_init) [.ref ev, .int 0] [] f48 _ :=
    ⟨⟨_, _, .ref dT, _, _, _, _, _, _, _, rfl, l48, c48, .inr ⟨by simp, dT, _, [.ref ev, .int 0 t0], _, rfl, lD, rfl, .cons rfl (.cons ⟨_, rfl⟩ .nil)⟩, .inl rfl⟩, k48⟩
  obtain ⟨ds1, v1, bT1⟩ := FT.binds1 (ps := ["self", "head", "loop", "rise"]) 2 0 (by simp) rfl fun T kV doc pm an cdv ct us its h1 h2 => match us, its, h1, h2 with | [_, _], [_, _], _, _ => ⟨_, rfl, rfl⟩
  obtain ⟨ds3, v3, bT3⟩ := FT.binds1 (ps := ["self", "head", "loop", "rise"]) 4 2 (by simp) rfl fun T kV doc pm an cdv ct us its h1 h2 => match us, its, h1, h2 with | [_, _, _, _], [_, _], _, _ => ⟨_, rfl, rfl⟩
  refine ⟨PySem.W.fnOf "law" "law" (defArgs s_law) (defBody s_law) (defScope s_law) .none kV43 dc43 pm43 an43 cd43 ct43, fun s u => .of_eq rfl, fun base _ _ => ?_⟩
  have c_is_integer : C8.Cal l.prog w K mg base 1 "is_integer" spInteger [] := ⟨f1, _, _, [], ok_is_integer F1 T, m1, k1, b1, .nil⟩
  have c_is_count : C8.Cal l.prog w K mg base 2 "is_count" spCount [] := ⟨f2, _, _, [], ok_is_count F2 T c_is_integer, m2, k2, b2, .nil⟩
  have c_is_listed : C8.Cal l.prog w K mg base 1 "is_listed" (spListed K) [] := ⟨f3, _, _, [], ok_is_listed F3 T, m3, k3, b3, .nil⟩
  have c_is_counts : C8.Cal l.prog w K mg base 3 "is_counts" (spCounts K) [] := ⟨f4, _, _, [], ok_is_counts F4 T c_is_listed c_is_count, m4, k4, b4, .nil⟩
  have c_deep_ := c_deep (P := l.prog) (w := w) (base := base) F5 T c_is_listed m5 b5
  have c_deep := c_deep_ 1
  have c_is_rising : C8.Cal l.prog w K mg base 1 "is_rising" (spRising K) [] := ⟨f6, _, _, [], ok_is_rising F6 T, m6, k6, b6, .nil⟩
  have c_common_divisor : C8.Cal l.prog w K mg base 1 "common_divisor" spGcd [] := ⟨f7, _, _, [], ok_common_divisor F7 T, m7, k7, b7, .nil⟩
  have c_common_multiple : C8.Cal l.prog w K mg base 2 "common_multiple" spLcm [] := ⟨f8, _, _, [], ok_common_multiple F8 T c_common_divisor, m8, k8, b8, .nil⟩
  have c_value_at : C8.Cal l.prog w K mg base 1 "value_at" (spValue K) [] := ⟨f9, _, _, [], ok_value_at F9 T, m9, k9, b9, .nil⟩
  have c_short_loop : C8.Cal l.prog w K mg base 1 "short_loop" (spShort K) [] := ⟨f10, _, _, [], ok_short_loop F10 T, m10, k10, b10, .nil⟩
  have c_plain_form : C8.Cal l.prog w K mg base 2 "plain_form" (spPlain K) [] := ⟨f11, _, _, [], ok_plain_form F11 T c_short_loop c_value_at, m11, k11, b11, .nil⟩
  have c_checked_table : C8.Cal l.prog w K mg base 4 "checked_table" (spChecked K) [] := ⟨f12, _, _, [], ok_checked_table F12 T c_is_counts c_is_rising c_is_count c_deep c_plain_form, m12, k12, b12, .nil⟩
  have okT := ok_Table_init (base := base) (P := l.prog) (w := w) FT T c_checked_table
  have m_Table1 : C8.Mak l.prog w K mg base 5 "Table" CT (spTable K CT) [.ref ev, .int 0] := ⟨f48, _, _, ds1, ⟨mkT, a48, i48, kcT⟩, okT, PySem.W.mg_of X G gTable, bT1, v1⟩
  have m_Table3 : C8.Mak l.prog w K mg base 5 "Table" CT (spTable K CT) [] := ⟨f48, _, _, ds3, ⟨mkT, a48, i48, kcT⟩, okT, PySem.W.mg_of X G gTable, bT3, v3⟩
  have okC : FnOk l.prog w K mg base CX0 3 f44 _ _ (spCall K CT) := ok_Table_call F44 T c_is_count c_value_at
  have cl_Table : Clo l.prog w K mg base 3 CT (spCall K CT) := ⟨f44, ⟨a44, i44, fnCall⟩, (okC.raw b44 .nil).imp fun vs H Q E h => by rw [List.append_nil]; exact h⟩
  have oe_Table : OwnEqT l.prog w K mg base CT := ⟨f45, _, _, ok_Table_eq F45 T, a45, i45, b45⟩
  have c_is_deed : C8.Cal l.prog w K mg base 2 "is_deed" spDeed [] := ⟨f13, _, _, [], ok_is_deed F13 T c_is_integer, m13, k13, b13, .nil⟩
  have c_is_deeds : C8.Cal l.prog w K mg base 3 "is_deeds" (spDeeds K) [] := ⟨f14, _, _, [], ok_is_deeds F14 T c_is_listed c_is_deed, m14, k14, b14, .nil⟩
  have c_is_ways : C8.Cal l.prog w K mg base 4 "is_ways" (spWays K) [] := ⟨f15, _, _, [], ok_is_ways F15 T c_is_listed c_is_deeds, m15, k15, b15, .nil⟩
  have c_is_way_numbers : C8.Cal l.prog w K mg base 2 "is_way_numbers" (spWayN K) [] := ⟨f16, _, _, [], ok_is_way_numbers F16 T c_is_listed c_is_integer, m16, k16, b16, .nil⟩
  have c_is_course : C8.Cal l.prog w K mg base 3 "is_course" (spCourse K CM) [] := ⟨f17, _, _, [], ok_is_course F17 T c_is_listed c_is_way_numbers, m17, k17, b17, .nil⟩
  have c_takes_ahead : C8.Cal l.prog w K mg base 1 "takes_ahead" (spTakes K) [] := ⟨f18, _, _, [], ok_takes_ahead F18 T, m18, k18, b18, .nil⟩
  have c_check_inlet : C8.Cal l.prog w K mg base 2 "check_inlet" (spInlet K CM) [] := ⟨f19, _, _, [], ok_check_inlet F19 T c_is_integer, m19, k19, b19, .nil⟩
  have c_need_on : C8.Cal l.prog w K mg base 7 "need_on" (spNeedOn K CT CM) [] := ⟨f20, _, _, [], ok_need_on F20 T c_takes_ahead he m_Table1 m_Table3, m20, k20, b20, .nil⟩
  have c_deep1 := c_deep
  clear c_deep
  have c_deep := c_deep_ 2
  have m_Maker3 : C8.Mak l.prog w K mg base 5 "Maker" CM (spMaker K CM) [] := ⟨f46, _, _, [], ⟨mkM, a46, i46, kcM⟩, ok_Maker_init F46 T c_is_integer c_is_deeds c_is_ways c_deep, PySem.W.mg_of X G gMaker, b46, .nil⟩
  have mt_need : C8.Met l.prog w K mg base 8 CM "need" (spNeed K CT CM) [] := ⟨f47, _, _, [], clM, ⟨a47, i47, k47⟩, ok_Maker_need F47 T c_check_inlet c_is_course c_need_on, b47, .nil⟩
  have c_extreme : C8.Cal l.prog w K mg base 8 "extreme" (spExtreme K CT CM) [] := ⟨f21, _, _, [], ok_extreme F21 T c_need_on, m21, k21, b21, .nil⟩
  have c_least : C8.Cal l.prog w K mg base 9 "least" (spLeast K CT CM) [] := ⟨f22, _, _, [], ok_least F22 T c_check_inlet c_extreme, m22, k22, b22, .nil⟩
  have c_greatest : C8.Cal l.prog w K mg base 9 "greatest" (spLeast K CT CM) [] := ⟨f23, _, _, [], ok_greatest F23 T c_check_inlet c_extreme, m23, k23, b23, .nil⟩
  have x_check_lengths : CalX l.prog w K mg base 3 "check_lengths" (spLens K CT CB) := ⟨f24, _, _, ok_check_lengths F24 T xc_BadTables, m24, k24, b24⟩
  have x_deeds_to : CalX l.prog w K mg base 5 "deeds_to" (spTo K CT CF) := ⟨f25, _, _, ok_deeds_to F25 T cl_Table xc_TooMany, m25, k25, b25⟩
  have x_maker_of : CalX l.prog w K mg base 8 "maker_of" (spMk K CT CM CB CF) := ⟨f26, _, _, ok_maker_of F26 T c_is_listed x_check_lengths x_deeds_to c_common_multiple m_Maker3 xc_BadTables xc_TooMany, m26, k26, b26⟩
  have c__law_source : C8.Cal l.prog w K mg base 1 "_law_source" (spSource K) [] := ⟨f27, _, _, [], ok_law_source F27 T, m27, k27, b27, .nil⟩
  have c__law_pick : C8.Cal l.prog w K mg base 1 "_law_pick" spPick [] := ⟨f28, _, _, [], ok_law_pick F28 T, m28, k28, b28, .nil⟩
  have c__law_is_integer : C8.Cal l.prog w K mg base 1 "_law_is_integer" spInteger [] := ⟨f29, _, _, [], ok_law_is_integer F29 T, m29, k29, b29, .nil⟩
  have c__law_is_count : C8.Cal l.prog w K mg base 2 "_law_is_count" spCount [] := ⟨f30, _, _, [], ok_law_is_count F30 T c__law_is_integer, m30, k30, b30, .nil⟩
  have c__law_rising : C8.Cal l.prog w K mg base 2 "_law_rising" spRis [] := ⟨f31, _, _, [], ok_law_rising F31 T c__law_pick, m31, k31, b31, .nil⟩
  have c__law_raw : C8.Cal l.prog w K mg base 3 "_law_raw" (spRaw K) [] := ⟨f32, _, _, [], ok_law_raw F32 T c__law_pick c__law_rising, m32, k32, b32, .nil⟩
  have c__law_at : C8.Cal l.prog w K mg base 1 "_law_at" (spAt K) [] := ⟨f33, _, _, [], ok_law_at F33 T, m33, k33, b33, .nil⟩
  have c__law_counts : C8.Cal l.prog w K mg base 1 "_law_counts" (spCnts K) [] := ⟨f34, _, _, [], ok_law_counts F34 T, m34, k34, b34, .nil⟩
  have c__law_ended : C8.Cal l.prog w K mg base 3 "_law_ended" (spEnded K) [] := ⟨f35, _, _, [], ok_law_ended F35 T c__law_at c__law_counts, m35, k35, b35, .nil⟩
  have c__law_tables : C8.Cal l.prog w K mg base 4 "_law_tables" (spTabs K) [] := ⟨f36, _, _, [], ok_law_tables F36 T c__law_pick c__law_raw c__law_ended, m36, k36, b36, .nil⟩
  have c__law_plain : C8.Cal l.prog w K mg base 1 "_law_plain" (spLPlain K) [] := ⟨f37, _, _, [], ok_law_plain F37 T, m37, k37, b37, .nil⟩
  have c__law_ahead : C8.Cal l.prog w K mg base 1 "_law_ahead" (spTakes K) [] := ⟨f38, _, _, [], ok_law_ahead F38 T, m38, k38, b38, .nil⟩
  have c__law_table : C8.Cal l.prog w K mg base 7 "_law_table" (spLTab K CT) [] := ⟨f39, _, _, [], ok_law_table F39 T m_Table3, m39, k39, b39, .nil⟩
  have c__law_same : C8.Cal l.prog w K mg base 3 "_law_same" (spSame K CT) [] := ⟨f40, _, _, [], ok_law_same F40 T c__law_is_count, m40, k40, b40, .nil⟩
  have c__law_on : C8.Cal l.prog w K mg base 2 "_law_on" (spOn K) [] := ⟨f41, _, _, [], ok_law_on F41 T c__law_ahead c__law_plain, m41, k41, b41, .nil⟩
  have c__law_seen : C8.Cal l.prog w K mg base 10 "_law_seen" (spSeen K CT CM CB CF) [] := ⟨f42, _, _, [], ok_law_seen F42 T x_maker_of xc_BadTables xc_TooMany xf_number xf_word hBB hFB hFF, m42, k42, b42, .nil⟩
  exact ok_law (ev := ev) F43 T c__law_source c__law_tables c__law_table x_maker_of c__law_plain c__law_on c__law_same mt_need c_least c_greatest c__law_pick c__law_seen m_Table3 oe_Table
end K28
end
section
set_option Elab.async false
set_option linter.all false
set_option maxRecDepth 100000
set_option maxHeartbeats 0
namespace K28
open PySem PySem.Spec PyProof.Rows L2
open Evl (Ex)
theorem walk {l : PySem.W.OpenLaw} {q : Program} {loose : List Str} {XP : (Str → Option Value) → Heap → Prop} {YP : World → Heap → Prop} {d : DefRec} {K : Params → PySem.W.Frag} (hn : l.most = some 63) (hdf : d.params.defaults = [])
    (hY : ∀ (w : World) (h : Heap), YP w h → (K w.params).In h)
    (F : ∀ (w : World) (mg : Str → Option Value) (fa : Addr) (h : Heap), (K w.params).In h → h.Ns mainGlobals mg → mg d.name = some (.ref fa) →
      ∃ fd : FuncData, (∀ (s : Shared) (u : Value), BindsTo s fd ⟨[u], []⟩ [("_law_script", u)]) ∧ ∀ base : Heap, (K w.params).In base → base.Ns mainGlobals mg → FnOk l.prog w (K w.params) mg base CX0 13 fa fd ["_law_script"] (spLaw (K w.params))) :
    PySem.W.WalkO q loose XP YP l.row.toRowW d [] (fun f vs => PySem.call f vs) :=
  L2.walk_ofB (n := 63) (k := 13) (x := "_law_script") (CX := fun _ => CX0) (sp := fun w => spLaw (K w.params)) hn (by decide) hdf ⟨rfl, by decide, by decide⟩ hY F (fun _ _ a ns _ hb _ hS => ⟨a, ns, rfl, hS, hb, fun _ => rfl⟩) fun _ _ _ _ _ z => z
end K28
open PySem PySem.W PyProof.Rows in
set_option maxRecDepth 100000 in
set_option maxHeartbeats 0 in
theorem PySem.Challenge.cw_needforth_k28_whole_makers_of_tables_holds : PySem.Challenge.rw_needforth_k28_whole_makers_of_tables.Holds :=
  k28_head (by
    k_fill
    refine K28.walk (l := PySem.Challenge.rw_needforth_k28_whole_makers_of_tables) rfl rfl (fun w h Y => PySem.W.kIn_of Y) ?F
    case F =>
      intro w mg fa h KX G hmg
      refine' K28.all_mk KX G hmg ?gTable ?gMaker ?gBadTables ?gTooMany ?a1 ?l1 ?c1 ?k1 ?a2 ?l2 ?c2 ?k2 ?a3 ?l3 ?c3 ?k3 ?a4 ?l4 ?c4 ?k4 ?a5 ?l5 ?c5 ?k5 ?a6 ?l6 ?c6 ?k6 ?a7 ?l7 ?c7 ?k7 ?a8 ?l8 ?c8 ?k8 ?a9 ?l9 ?c9 ?k9 ?a10 ?l10 ?c10 ?k10 ?a11 ?l11 ?c11 ?k11 ?a12 ?l12 ?c12 ?k12 ?a13 ?l13 ?c13 ?k13 ?a14 ?l14 ?c14 ?k14 ?a15 ?l15 ?c15 ?k15 ?a16 ?l16 ?c16 ?k16 ?a17 ?l17 ?c17 ?k17 ?a18 ?l18 ?c18 ?k18 ?a19 ?l19 ?c19 ?k19 ?a20 ?l20 ?c20 ?k20 ?a21 ?l21 ?c21 ?k21 ?a22 ?l22 ?c22 ?k22 ?a23 ?l23 ?c23 ?k23 ?a24 ?l24 ?c24 ?k24 ?a25 ?l25 ?c25 ?k25 ?a26 ?l26 ?c26 ?k26 ?a27 ?l27 ?c27 ?k27 ?a28 ?l28 ?c28 ?k28 ?a29 ?l29 ?c29 ?k29 ?a30 ?l30 ?c30 ?k30 ?a31 ?l31 ?c31 ?k31 ?a32 ?l32 ?c32 ?k32 ?a33 ?l33 ?c33 ?k33 ?a34 ?l34 ?c34 ?k34 ?a35 ?l35 ?c35 ?k35 ?a36 ?l36 ?c36 ?k36 ?a37 ?l37 ?c37 ?k37 ?a38 ?l38 ?c38 ?k38 ?a39 ?l39 ?c39 ?k39 ?a40 ?l40 ?c40 ?k40 ?a41 ?l41 ?c41 ?k41 ?a42 ?l42 ?c42 ?k42 ?a43 ?l43 ?c43 ?k43 ?a44 ?i44 ?l44 ?c44 ?k44 ?a45 ?i45 ?l45 ?c45 ?k45 ?a46 ?i46 ?l46 ?c46 ?k46 ?a47 ?i47 ?l47 ?c47 ?k47 ?a48 ?i48 ?l48 ?c48 ?k48 ?lD ?lE ?fnCall ?z_isinstance ?z_int ?z_bool ?z_str ?z_tuple ?z_list ?z_len ?z_all ?z_any ?z_max ?z_range ?z_enumerate ?z_abs ?z_super ?h_GIVE ?h_MOST_INLETS ?h_MOST_WAYS ?h_MOST_DEEDS ?h_MOST_DEEDS_EACH ?h_MOST_FIRST ?h_MOST_THEN ?pgT ?hdT ?poT ?saT ?haT ?hmT ?mkT ?kcT ?pgM ?hdM ?poM ?saM ?haM ?hmM ?mkM ?kcM ?hn ?htk ?n_head ?n_loop ?n_rise ?n_inlets ?n_begin ?n_ways ?isT ?tyT ?su_NoneType ?su_int ?su_tuple ?su_str ?su_bool ?xLB ?xsB ?xgB ?xhB ?xnB ?xiB ?xtB ?xkB ?xeB ?xvB ?xyB ?xdB ?xcB ?xuB ?xwB ?xmB ?xlB ?xoB ?xpB ?xqB ?xrB ?xzB ?xaB ?zsaB ?zsbB ?xLF ?xsF ?xgF ?xhF ?xnF ?xiF ?xtF ?xkF ?xeF ?xvF ?xyF ?xdF ?xcF ?xuF ?xwF ?xmF ?xlF ?xoF ?xpF ?xqF ?xrF ?xzF ?xaF ?zsaF ?opq ?tp ?sBB ?sFB ?sFF
      (case gTable => k_is)
      (case gMaker => k_is)
      (case gBadTables => k_is)
      (case gTooMany => k_is)
      (case a1 => k_is)
      (case l1 => k_is)
      (case c1 => k_is)
      (case k1 => k_is)
      (case a2 => k_is)
      (case l2 => k_is)
      (case c2 => k_is)
      (case k2 => k_is)
      (case a3 => k_is)
      (case l3 => k_is)
      (case c3 => k_is)
      (case k3 => k_is)
      (case a4 => k_is)
      (case l4 => k_is)
      (case c4 => k_is)
      (case k4 => k_is)
      (case a5 => k_is)
      (case l5 => k_is)
      (case c5 => k_is)
      (case k5 => k_is)
      (case a6 => k_is)
      (case l6 => k_is)
      (case c6 => k_is)
      (case k6 => k_is)
      (case a7 => k_is)
      (case l7 => k_is)
      (case c7 => k_is)
      (case k7 => k_is)
      (case a8 => k_is)
      (case l8 => k_is)
      (case c8 => k_is)
      (case k8 => k_is)
      (case a9 => k_is)
      (case l9 => k_is)
      (case c9 => k_is)
      (case k9 => k_is)
      (case a10 => k_is)
      (case l10 => k_is)
      (case c10 => k_is)
      (case k10 => k_is)
      (case a11 => k_is)
      (case l11 => k_is)
      (case c11 => k_is)
      (case k11 => k_is)
      (case a12 => k_is)
      (case l12 => k_is)
      (case c12 => k_is)
      (case k12 => k_is)
      (case a13 => k_is)
      (case l13 => k_is)
      (case c13 => k_is)
      (case k13 => k_is)
      (case a14 => k_is)
      (case l14 => k_is)
      (case c14 => k_is)
      (case k14 => k_is)
      (case a15 => k_is)
      (case l15 => k_is)
      (case c15 => k_is)
      (case k15 => k_is)
      (case a16 => k_is)
      (case l16 => k_is)
      (case c16 => k_is)
      (case k16 => k_is)
      (case a17 => k_is)
      (case l17 => k_is)
      (case c17 => k_is)
      (case k17 => k_is)
      (case a18 => k_is)
      (case l18 => k_is)
      (case c18 => k_is)
      (case k18 => k_is)
      (case a19 => k_is)
      (case l19 => k_is)
      (case c19 => k_is)
      (case k19 => k_is)
      (case a20 => k_is)
      (case l20 => k_is)
      (case c20 => k_is)
      (case k20 => k_is)
      (case a21 => k_is)
      (case l21 => k_is)
      (case c21 => k_is)
      (case k21 => k_is)
      (case a22 => k_is)
      (case l22 => k_is)
      (case c22 => k_is)
      (case k22 => k_is)
      (case a23 => k_is)
      (case l23 => k_is)
      (case c23 => k_is)
      (case k23 => k_is)
      (case a24 => k_is)
      (case l24 => k_is)
      (case c24 => k_is)
      (case k24 => k_is)
      (case a25 => k_is)
      (case l25 => k_is)
      (case c25 => k_is)
      (case k25 => k_is)
      (case a26 => k_is)
      (case l26 => k_is)
      (case c26 => k_is)
      (case k26 => k_is)
      (case a27 => k_is)
      (case l27 => k_is)
      (case c27 => k_is)
      (case k27 => k_is)
      (case a28 => k_is)
      (case l28 => k_is)
      (case c28 => k_is)
      (case k28 => k_is)
      (case a29 => k_is)
      (case l29 => k_is)
      (case c29 => k_is)
      (case k29 => k_is)
      (case a30 => k_is)
      (case l30 => k_is)
      (case c30 => k_is)
      (case k30 => k_is)
      (case a31 => k_is)
      (case l31 => k_is)
      (case c31 => k_is)
      (case k31 => k_is)
      (case a32 => k_is)
      (case l32 => k_is)
      (case c32 => k_is)
      (case k32 => k_is)
      (case a33 => k_is)
      (case l33 => k_is)
      (case c33 => k_is)
      (case k33 => k_is)
      (case a34 => k_is)
      (case l34 => k_is)
      (case c34 => k_is)
      (case k34 => k_is)
      (case a35 => k_is)
      (case l35 => k_is)
      (case c35 => k_is)
      (case k35 => k_is)
      (case a36 => k_is)
      (case l36 => k_is)
      (case c36 => k_is)
      (case k36 => k_is)
      (case a37 => k_is)
      (case l37 => k_is)
      (case c37 => k_is)
      (case k37 => k_is)
      (case a38 => k_is)
      (case l38 => k_is)
      (case c38 => k_is)
      (case k38 => k_is)
      (case a39 => k_is)
      (case l39 => k_is)
      (case c39 => k_is)
      (case k39 => k_is)
      (case a40 => k_is)
      (case l40 => k_is)
      (case c40 => k_is)
      (case k40 => k_is)
      (case a41 => k_is)
      (case l41 => k_is)
      (case c41 => k_is)
      (case k41 => k_is)
      (case a42 => k_is)
      (case l42 => k_is)
      (case c42 => k_is)
      (case k42 => k_is)
      (case a43 => k_is)
      (case l43 => k_is)
      (case c43 => k_is)
      (case k43 => k_is)
      (case a44 => k_is)
      (case i44 => k_is)
      (case l44 => k_is)
      (case c44 => k_is)
      (case k44 => k_is)
      (case a45 => k_is)
      (case i45 => k_is)
      (case l45 => k_is)
      (case c45 => k_is)
      (case k45 => k_is)
      (case a46 => k_is)
      (case i46 => k_is)
      (case l46 => k_is)
      (case c46 => k_is)
      (case k46 => k_is)
      (case a47 => k_is)
      (case i47 => k_is)
      (case l47 => k_is)
      (case c47 => k_is)
      (case k47 => k_is)
      (case a48 => k_is)
      (case i48 => k_is)
      (case l48 => k_is)
      (case c48 => k_is)
      (case k48 => k_is)
      (case lD => k_is)
      (case lE => k_is)
      (case fnCall => k_is)
      (case z_isinstance => k_is)
      (case z_int => k_is)
      (case z_bool => k_is)
      (case z_str => k_is)
      (case z_tuple => k_is)
      (case z_list => k_is)
      (case z_len => k_is)
      (case z_all => k_is)
      (case z_any => k_is)
      (case z_max => k_is)
      (case z_range => k_is)
      (case z_enumerate => k_is)
      (case z_abs => k_is)
      (case z_super => k_is)
      (case h_GIVE => k_is)
      (case h_MOST_INLETS => k_is)
      (case h_MOST_WAYS => k_is)
      (case h_MOST_DEEDS => k_is)
      (case h_MOST_DEEDS_EACH => k_is)
      (case h_MOST_FIRST => k_is)
      (case h_MOST_THEN => k_is)
      (case pgT => k_is)
      (case hdT => k_is)
      (case poT => k_is)
      (case saT => k_is)
      (case haT => k_is)
      (case hmT => k_is)
      (case mkT => k_is)
      (case kcT => k_is)
      (case pgM => k_is)
      (case hdM => k_is)
      (case poM => k_is)
      (case saM => k_is)
      (case haM => k_is)
      (case hmM => k_is)
      (case mkM => k_is)
      (case kcM => k_is)
      (case hn => k_is)
      (case htk => k_is)
      (case n_head => k_is)
      (case n_loop => k_is)
      (case n_rise => k_is)
      (case n_inlets => k_is)
      (case n_begin => k_is)
      (case n_ways => k_is)
      (case isT => k_is)
      (case tyT => k_is)
      (case su_NoneType => k_is)
      (case su_int => k_is)
      (case su_tuple => k_is)
      (case su_str => k_is)
      (case su_bool => k_is)
      (case xLB => k_is)
      (case xsB => k_is)
      (case xgB => k_is)
      (case xhB => k_is)
      (case xnB => k_is)
      (case xiB => k_is)
      (case xtB => k_is)
      (case xkB => k_is)
      (case xeB => k_is)
      (case xvB => k_is)
      (case xyB => k_is)
      (case xdB => k_is)
      (case xcB => k_is)
      (case xuB => ks_is)
      (case xwB => k_is)
      (case xmB => k_is)
      (case xlB => k_is)
      (case xoB => k_is)
      (case xpB => rfl)
      (case xqB => k_is)
      (case xrB => rfl)
      (case xzB => first | rfl | decide +kernel)
      (case xaB => k_is)
      (case zsaB => decide +kernel)
      (case zsbB => decide +kernel)
      (case xLF => k_is)
      (case xsF => k_is)
      (case xgF => k_is)
      (case xhF => k_is)
      (case xnF => k_is)
      (case xiF => k_is)
      (case xtF => k_is)
      (case xkF => k_is)
      (case xeF => k_is)
      (case xvF => k_is)
      (case xyF => k_is)
      (case xdF => k_is)
      (case xcF => k_is)
      (case xuF => ks_is)
      (case xwF => k_is)
      (case xmF => k_is)
      (case xlF => k_is)
      (case xoF => k_is)
      (case xpF => rfl)
      (case xqF => k_is)
      (case xrF => rfl)
      (case xzF => first | rfl | decide +kernel)
      (case xaF => k_is)
      (case zsaF => decide +kernel)
      (case opq => k_is)
      (case tp => first | rfl | decide +kernel)
      (case sBB => first | rfl | k_is)
      (case sFB => k_is)
      (case sFF => first | rfl | k_is))
end
