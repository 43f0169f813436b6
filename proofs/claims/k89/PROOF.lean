import PyProof.Rows.All
import Wide.All
import OpenK.AllK
import Wide.FinOn
import HandS.ForMost
import HandS.Evl
import HandS.Flow
import HandS.Style
import HandS.Wide
import HandS.Gcd
import HandS.Zip
import HandS.Walk
import HandS.TupAny
import HandS.TupMul
import HandS.IsInst
import HandS.TupLe
import HandS.Conv
import HandS.DictTup
import HandS.Lambda
import HandS.ExcValue
import HandS.Defaults
import HandS.ExcIs
import HandS.ExcOwn
import HandS.ExcSuper
import HandS.HeadHook1
import HandS.BoundList
import KE.GoesMore
import KE.GoesEnum
import HandS.Deep
import HandS.MakeKwOnly
import HandS.HeadHook4
import KE.GoesZip
import HandS.Head0
import HandS.Head1
import HandS.Head2
import HandS.Head3
import HandS.HeadEnd
import HandS.HeadHook2
import HandS.HeadHook3
import HandS.HeadWalk
import HandS.EndTab
import PySem.Challenge.RW_judgedalike_k89_whole_orders_of_seats_ju
set_option Elab.async false
set_option linter.all false
set_option maxRecDepth 100000
set_option maxHeartbeats 4000000
/-! J1: what an expression, a test, a statement makes, told over its own syntax; data in heaps of which some objects may change. -/
namespace J
open PySem PySem.Spec PyProof.Rows L2 Evl

/-! ### the weakest words of a piece of syntax -/
section
variable {X : Cx}
def tW (X : Cx) (e : Expr) : TE := fun σ H Q => ∀ (pins : List (Addr × Obj)) (s : Shared), Inv X pins σ H s → wpAny (model X.prog X.w) X.A (eval e X.env) (EP X pins σ Q) X.xe s
def tT (X : Cx) (e : Expr) : TT := fun σ H Q => ∀ (pins : List (Addr × Obj)) (s : Shared), Inv X pins σ H s → wpAny (model X.prog X.w) X.A (isTrue e X.env (eval e X.env)) (TP X pins σ Q) X.xe s
def tA (X : Cx) (es : List Expr) : TA := fun σ H Q => ∀ (pos : Pos) (pins : List (Addr × Obj)) (s : Shared), Inv X pins σ H s → wpAny (model X.prog X.w) X.A (spliced (backTo pos (starEach es X.env))) (AP X pins σ Q) X.xe s
def tS (X : Cx) (st : Stmt) : TS := fun D σ H => ∀ (pins : List (Addr × Obj)) (s : Shared), Inv X pins σ H s → wpAny (model X.prog X.w) X.A (exec st X.env) (SP X pins D) X.xe s
def tB (X : Cx) (sts : List Stmt) : TS := fun D σ H => ∀ (pins : List (Addr × Obj)) (s : Shared), Inv X pins σ H s → wpAny (model X.prog X.w) X.A (execs sts X.env) (SP X pins D) X.xe s
theorem pe_W {e : Expr} : PE X e (tW X e) := ⟨fun pins s _ _ _ I h => h pins s I⟩
theorem pt_T {e : Expr} : PT X e (tT X e) := ⟨fun pins s _ _ _ I h => h pins s I⟩
theorem pa_A {es : List Expr} : PA X es (tA X es) := ⟨fun pos pins s _ _ _ I h => h pos pins s I⟩
theorem ps_S {st : Stmt} : PS X st (tS X st) := ⟨fun pins s _ _ _ I h => h pins s I⟩
theorem pss_B {sts : List Stmt} : PSs X sts (tB X sts) := ⟨fun pins s _ _ _ I h => h pins s I⟩
variable {e : Expr} {es : List Expr} {st : Stmt} {sts : List Stmt} {σ : L2.St} {H : Hp}
theorem leW {t : TE} {Q : VK} (p : PE X e t) (q : t σ H Q) : tW X e σ H Q := fun pins s I => p.run pins s σ H Q I q
theorem leT {t : TT} {Q : Bool → Hp → Prop} (p : PT X e t) (q : t σ H Q) : tT X e σ H Q := fun pins s I => p.run pins s σ H Q I q
theorem leA {t : TA} {Q : List V → Hp → Prop} (p : PA X es t) (q : t σ H Q) : tA X es σ H Q := fun pos pins s I => p.run pos pins s σ H Q I q
theorem leS {t : TS} {D : Ends} (p : PS X st t) (q : t D σ H) : tS X st D σ H := fun pins s I => p.run pins s σ H D I q
theorem leB {t : TS} {D : Ends} (p : PSs X sts t) (q : t D σ H) : tB X sts D σ H := fun pins s I => p.run pins s σ H D I q
end

/-! ### heaps of which some objects may change -/
def hid (M : List Addr) (H : Hp) : Hp := fun a => if a ∈ M then none else H a
theorem hid_in {M : List Addr} {H : Hp} {a : Addr} (h : a ∈ M) : hid M H a = none := if_pos h
theorem hid_out {M : List Addr} {H : Hp} {a : Addr} (h : a ∉ M) : hid M H a = H a := if_neg h
theorem hid_nil {H : Hp} : hid [] H = H := by funext a; exact if_neg (by simp)
theorem hid_ex {M : List Addr} {H H1 : Hp} (e : Ex H H1) : Ex (hid M H) (hid M H1) := fun a o h => by
  by_cases ha : a ∈ M
  · rw [hid_in ha] at h; cases h
  · rw [hid_out ha] at h ⊢; exact e a o h
theorem hid_le {M : List Addr} {H : Hp} : Ex (hid M H) H := fun a o h => by
  by_cases ha : a ∈ M
  · rw [hid_in ha] at h; cases h
  · rw [hid_out ha] at h; exact h
theorem hid_sub {M M' : List Addr} {H : Hp} (s : ∀ a ∈ M, a ∈ M') : Ex (hid M' H) (hid M H) := fun a o h => by
  by_cases ha : a ∈ M'
  · rw [hid_in ha] at h; cases h
  · rw [hid_out ha] at h; rw [hid_out fun z => ha (s a z)]; exact h
theorem hid_upd {M : List Addr} {H : Hp} {a : Addr} {o : HO} (h : a ∈ M) : hid M (upd H a o) = hid M H := by
  funext b
  by_cases hb : b ∈ M
  · rw [hid_in hb, hid_in hb]
  · rw [hid_out hb, hid_out hb, upd_ne (fun z : b = a => hb (by rw [z]; exact h))]
/-- a new object that may change from now on -/
theorem hid_new {M : List Addr} {H : Hp} {a : Addr} {o : HO} (h : H a = none) : hid (a :: M) (upd H a o) = hid M H := by
  funext b
  by_cases hb : b ∈ M
  · rw [hid_in hb, hid_in (List.mem_cons_of_mem _ hb)]
  · by_cases hba : b = a
    · subst hba
      rw [hid_in List.mem_cons_self, hid_out hb, h]
    · rw [hid_out hb, hid_out (by simp [hba, hb]), upd_ne hba]
/-- all of them stand -/
def Al (M : List Addr) (H : Hp) : Prop := ∀ a ∈ M, H a ≠ none
theorem Al.ex {M : List Addr} {H H1 : Hp} (l : Al M H) (e : Ex H H1) : Al M H1 := fun a ha z => by
  cases h : H a with
  | none => exact l a ha h
  | some o => rw [e a o h] at z; cases z
theorem Al.nil {H : Hp} : Al [] H := fun a ha => nomatch ha
theorem Al.cons {M : List Addr} {H : Hp} {a : Addr} (l : Al M H) (h : H a ≠ none) : Al (a :: M) H := fun b hb => by
  rcases List.mem_cons.mp hb with z | z
  · rw [z]; exact h
  · exact l b z
theorem Al.upd {M : List Addr} {H : Hp} {a : Addr} {o : HO} (l : Al M H) : Al M (upd H a o) := fun b hb z => by
  by_cases h : b = a
  · rw [h, upd_same] at z; cases z
  · rw [upd_ne h] at z; exact l b hb z
theorem Al.out {M : List Addr} {H : Hp} {a : Addr} (l : Al M H) (h : H a = none) : a ∉ M := fun z => l a z h
theorem Al.newEx {M : List Addr} {H : Hp} {a : Addr} {o : HO} (l : Al M H) (h : H a = none) : hid M (L2.upd H a o) a = some o := by
  rw [hid_out (l.out h), upd_same]

/-! ### data -/
abbrev D := PyData
section
variable {K : PySem.W.Frag} {H H' : Hp}
mutual
theorem dpEx (e : Ex H H') : ∀ (d : D) (v : V), Dp K H v d → Dp K H' v d
  | .none, _, h => by cases h; exact .non
  | .bool b, _, h => by cases h; exact .bl b
  | .int i, _, h => by cases h; exact .int i
  | .str x, _, h => by cases h; exact .str x
  | .list ds, _, h => by cases h with | lst a b => exact .lst (ex_l e a) (dpExA e ds _ b)
  | .tuple ds, _, h => by cases h with | tup a b => exact .tup (ex_t e a) (dpExA e ds _ b)
  | .dict _, _, h => by cases h
theorem dpExA (e : Ex H H') : ∀ (ds : List D) (vs : List V), DpAll K H vs ds → DpAll K H' vs ds
  | [], _, h => by cases h; exact .nil
  | d :: ds, _, h => by cases h with | cons a b => exact .cons (dpEx e d _ a) (dpExA e ds _ b)
end
theorem _root_.L2.Dp.ex {v : V} {d : D} (h : Dp K H v d) (e : Ex H H') : Dp K H' v d := dpEx e d v h
theorem _root_.L2.DpAll.ex {vs : List V} {ds : List D} (h : DpAll K H vs ds) (e : Ex H H') : DpAll K H' vs ds := dpExA e ds vs h
theorem dpLen : ∀ {vs : List V} {ds : List D}, DpAll K H vs ds → vs.length = ds.length
  | _, _, .nil => rfl
  | _, _, .cons _ t => by rw [List.length_cons, List.length_cons, dpLen t]
theorem dpGet : ∀ {vs : List V} {ds : List D} {i : Nat} {d : D}, DpAll K H vs ds → ds[i]? = some d → ∃ v, vs[i]? = some v ∧ Dp K H v d
  | _, _, _, _, .nil, e => by simp at e
  | _, _, 0, _, .cons a _, e => by simp at e; subst e; exact ⟨_, rfl, a⟩
  | _, _, i + 1, d, .cons _ t, e => by
    obtain ⟨v, h1, h2⟩ := dpGet (i := i) (d := d) t (by simpa using e)
    exact ⟨v, by simpa using h1, h2⟩
theorem dpGetV : ∀ {vs : List V} {ds : List D} {i : Nat} {v : V}, DpAll K H vs ds → vs[i]? = some v → ∃ d, ds[i]? = some d ∧ Dp K H v d
  | _, _, _, _, .nil, e => by simp at e
  | _, _, 0, _, .cons a _, e => by simp at e; subst e; exact ⟨_, rfl, a⟩
  | _, _, i + 1, v, .cons _ t, e => by
    obtain ⟨d, h1, h2⟩ := dpGetV (i := i) (v := v) t (by simpa using e)
    exact ⟨d, by simpa using h1, h2⟩
theorem dpApp : ∀ {vs ws : List V} {ds es : List D}, DpAll K H vs ds → DpAll K H ws es → DpAll K H (vs ++ ws) (ds ++ es)
  | _, _, _, _, .nil, s => s
  | _, _, _, _, .cons r t, s => .cons r (dpApp t s)
theorem _root_.L2.DpAll.len {vs : List V} {ds : List D} (h : DpAll K H vs ds) : vs.length = ds.length := dpLen h
theorem _root_.L2.DpAll.get {vs : List V} {ds : List D} {i : Nat} {d : D} (h : DpAll K H vs ds) (e : ds[i]? = some d) : ∃ v, vs[i]? = some v ∧ Dp K H v d := dpGet h e
theorem _root_.L2.DpAll.getV {vs : List V} {ds : List D} {i : Nat} {v : V} (h : DpAll K H vs ds) (e : vs[i]? = some v) : ∃ d, ds[i]? = some d ∧ Dp K H v d := dpGetV h e
theorem _root_.L2.DpAll.append {vs ws : List V} {ds es : List D} (h : DpAll K H vs ds) (k : DpAll K H ws es) : DpAll K H (vs ++ ws) (ds ++ es) := dpApp h k
theorem dInt {v : V} {i : Int} (h : Dp K H v (.int i)) : v = .int i := by cases h; rfl
theorem dBl {v : V} {b : Bool} (h : Dp K H v (.bool b)) : v = .bl b := by cases h; rfl
theorem dNon {v : V} (h : Dp K H v .none) : v = .non := by cases h; rfl
theorem dStr {v : V} {x : Str} (h : Dp K H v (.str x)) : v = .str x := by cases h; rfl
theorem dTup {v : V} {ds : List D} (h : Dp K H v (.tuple ds)) : ∃ a xs, v = .ref a ∧ SqT K H a xs ∧ DpAll K H xs ds := by cases h with | tup a b => exact ⟨_, _, rfl, a, b⟩
theorem dLst {v : V} {ds : List D} (h : Dp K H v (.list ds)) : ∃ a xs, v = .ref a ∧ SqL K H a xs ∧ DpAll K H xs ds := by cases h with | lst a b => exact ⟨_, _, rfl, a, b⟩
theorem dInts : ∀ (ns : List Int), DpAll K H (ns.map V.int) (ns.map PyData.int)
  | [] => .nil
  | i :: r => .cons (.int i) (dInts r)
theorem dIntsV : ∀ {ns : List Int} {vs : List V}, DpAll K H vs (ns.map PyData.int) → vs = ns.map V.int
  | [], _, h => by cases h; rfl
  | i :: r, _, h => by cases h with | cons a b => rw [dInt a, dIntsV b]; rfl
theorem dBlsV : ∀ {bs : List Bool} {vs : List V}, DpAll K H vs (bs.map PyData.bool) → vs = bs.map V.bl
  | [], _, h => by cases h; rfl
  | i :: r, _, h => by cases h with | cons a b => rw [dBl a, dBlsV b]; rfl
end

/-! ### what an expression makes -/
/-- e makes the datum d, whatever was laid since H; nothing that H holds changes -/
def Jd (X : Cx) (M : List Addr) (e : Expr) (σ : L2.St) (H : Hp) (d : D) : Prop := Al M H → ∀ H1, Ex H H1 → ∀ Q : VK, (∀ v H2, Ex H1 H2 → Dp X.K (hid M H2) v d → Q v H2) → tW X e σ H1 Q
/-- .. the value v -/
def Jv (X : Cx) (e : Expr) (σ : L2.St) (H : Hp) (v : V) : Prop := ∀ H1, Ex H H1 → ∀ Q : VK, (∀ H2, Ex H1 H2 → Q v H2) → tW X e σ H1 Q
def Jt (X : Cx) (M : List Addr) (e : Expr) (σ : L2.St) (H : Hp) (b : Bool) : Prop := Al M H → ∀ H1, Ex H H1 → ∀ Q : Bool → Hp → Prop, (∀ H2, Ex H1 H2 → Q b H2) → tT X e σ H1 Q
def Ja (X : Cx) (M : List Addr) (es : List Expr) (σ : L2.St) (H : Hp) (ds : List D) : Prop := Al M H → ∀ H1, Ex H H1 → ∀ Q : List V → Hp → Prop, (∀ vs H2, Ex H1 H2 → DpAll X.K (hid M H2) vs ds → Q vs H2) → tA X es σ H1 Q
section
variable {X : Cx} {M : List Addr} {σ : L2.St} {H H' : Hp} {a b c e : Expr} {es : List Expr} {d d' : D} {v : V} {pos : Pos} {i j : Int}
theorem Jd.mono (h : Jd X M e σ H d) (x : Ex H H') : Al M H → Jd X M e σ H' d := fun al _ H1 y => h al H1 (x.trans y)
theorem Jt.mono {k : Bool} (h : Jt X M e σ H k) (x : Ex H H') : Al M H → Jt X M e σ H' k := fun al _ H1 y => h al H1 (x.trans y)
theorem Jv.mono (h : Jv X e σ H v) (x : Ex H H') : Jv X e σ H' v := fun H1 y => h H1 (x.trans y)
theorem Jv.int (h : Jd X M e σ H (.int i)) (al : Al M H) : Jv X e σ H (.int i) := fun H1 x Q q => h al H1 x Q fun v H2 y p => by rw [dInt p]; exact q H2 y
theorem Jv.bl {k : Bool} (h : Jd X M e σ H (.bool k)) (al : Al M H) : Jv X e σ H (.bl k) := fun H1 x Q q => h al H1 x Q fun v H2 y p => by rw [dBl p]; exact q H2 y
theorem Jd.ofV (h : Jv X e σ H v) (p : Dp X.K (hid M H) v d) : Jd X M e σ H d := fun _ H1 x Q q => h H1 x Q fun H2 y => q v H2 y (p.ex (hid_ex (x.trans y)))
theorem Jd.is (h : Jd X M e σ H d) (z : d = d') : Jd X M e σ H d' := z ▸ h
theorem Jt.is {k k' : Bool} (h : Jt X M e σ H k) (z : k = k') : Jt X M e σ H k' := z ▸ h
/-- names, constants -/
theorem jv_var (n : Nat) {x : Str} (h : σ[n]? = some (some v)) (hN : X.N[n]? = some x := by rfl) (hv : Vis X.env.scope x := by first | exact Or.inl rfl | exact Or.inr (Or.inl rfl) | exact Or.inr (Or.inr rfl)) (hd : (x == ("__debug__" : Str)) = false := by decide)
    (hcd : (x == ("__classdict__" : Str)) = false := by decide) : Jv X (.Name x pos) σ H v := fun H1 _ _ q => leW (pe_var hN hv hd hcd) ⟨v, h, q H1 (Ex.refl H1)⟩
theorem jd_var (n : Nat) {x : Str} (h : σ[n]? = some (some v)) (p : Dp X.K (hid M H) v d) (hN : X.N[n]? = some x := by rfl) (hv : Vis X.env.scope x := by first | exact Or.inl rfl | exact Or.inr (Or.inl rfl) | exact Or.inr (Or.inr rfl))
    (hd : (x == ("__debug__" : Str)) = false := by decide) (hcd : (x == ("__classdict__" : Str)) = false := by decide) : Jd X M (.Name x pos) σ H d := Jd.ofV (jv_var n h hN hv hd hcd) p
theorem jd_int {k} : Jd X M (.Constant (.int i) k pos) σ H (.int i) := fun _ H1 _ _ q => leW pe_int (q _ H1 (Ex.refl H1) (.int i))
theorem jd_bl {k : Bool} {n} : Jd X M (.Constant (.bool k) n pos) σ H (.bool k) := fun _ H1 _ _ q => leW pe_bl (q _ H1 (Ex.refl H1) (.bl k))
theorem jd_non {n} : Jd X M (.Constant .none n pos) σ H .none := fun _ H1 _ _ q => leW pe_non (q _ H1 (Ex.refl H1) .non)
theorem jd_str {n} {x : Str} : Jd X M (.Constant (.str x) n pos) σ H (.str x) := fun _ H1 _ _ q => leW pe_str (q _ H1 (Ex.refl H1) (.str x))
theorem jv_glob {x : Str} {u : Value} (hm : X.mg x = some u) (r : RelV v u) (hg : Gl X x := by rfl) (hd : (x == ("__debug__" : Str)) = false := by decide) : Jv X (.Name x pos) σ H v := fun H1 _ _ q => leW (pe_glob hg hm r hd) (q H1 (Ex.refl H1))
theorem jd_glob {x : Str} {u : Value} (hm : X.mg x = some u) (r : RelV v u) (p : Dp X.K (hid M H) v d) (hg : Gl X x := by rfl) (hd : (x == ("__debug__" : Str)) = false := by decide) : Jd X M (.Name x pos) σ H d := Jd.ofV (jv_glob hm r hg hd) p
/-- operators on two ints -/
theorem jd_opI {op : Operator} {C : Int → Int → Prop} {g : Int → Int → Int} (ho : OpR X (binaryOp op) (rI C fun i j => .int (g i j))) (ha : Jd X M a σ H (.int i)) (hb : Jd X M b σ H (.int j)) (hc : C i j) : Jd X M (.BinOp a op b pos) σ H (.int (g i j)) := fun al H1 x Q q =>
  leW (pe_op ho pe_W pe_W) (ha al H1 x _ fun v H2 y p => hb al H2 (x.trans y) _ fun w H3 z r => ⟨i, j, dInt p, dInt r, hc, q _ H3 (y.trans z) (.int _)⟩)
theorem jd_opI0 {op : Operator} {g : Int → Int → Int} (ho : OpR X (binaryOp op) (rI0 fun i j => .int (g i j))) (ha : Jd X M a σ H (.int i)) (hb : Jd X M b σ H (.int j)) : Jd X M (.BinOp a op b pos) σ H (.int (g i j)) := fun al H1 x Q q =>
  leW (pe_op ho pe_W pe_W) (ha al H1 x _ fun v H2 y p => hb al H2 (x.trans y) _ fun w H3 z r => ⟨i, j, dInt p, dInt r, q _ H3 (y.trans z) (.int _)⟩)
theorem jd_add (ha : Jd X M a σ H (.int i)) (hb : Jd X M b σ H (.int j)) : Jd X M (.BinOp a .Add b pos) σ H (.int (i + j)) := jd_opI0 op_add ha hb
theorem jd_sub (ha : Jd X M a σ H (.int i)) (hb : Jd X M b σ H (.int j)) : Jd X M (.BinOp a .Sub b pos) σ H (.int (i - j)) := jd_opI0 op_sub ha hb
theorem jd_mul (ha : Jd X M a σ H (.int i)) (hb : Jd X M b σ H (.int j)) (hc : CMulW i j) : Jd X M (.BinOp a .Mult b pos) σ H (.int (i * j)) := jd_opI op_mulW ha hb hc
theorem jd_div (ha : Jd X M a σ H (.int i)) (hb : Jd X M b σ H (.int j)) (hc : CDivW i j) : Jd X M (.BinOp a .FloorDiv b pos) σ H (.int (i / j)) := jd_opI op_fdivW ha hb hc
theorem jd_mod (ha : Jd X M a σ H (.int i)) (hb : Jd X M b σ H (.int j)) (hc : 0 < j) : Jd X M (.BinOp a .Mod b pos) σ H (.int (i % j)) := jd_opI op_mod ha hb hc
theorem jd_pow (ha : Jd X M a σ H (.int i)) (hb : Jd X M b σ H (.int j)) (hc : CPow i j) : Jd X M (.BinOp a .Pow b pos) σ H (.int (i ^ j.toNat)) := jd_opI op_pow ha hb hc
theorem jd_neg (ha : Jd X M a σ H (.int i)) : Jd X M (.UnaryOp .USub a pos) σ H (.int (-i)) := fun al H1 x Q q => leW (pe_un un_neg pe_W) (ha al H1 x _ fun v H2 y p => ⟨i, dInt p, q _ H2 y (.int _)⟩)
/-- comparisons of two ints, as values and tests -/
theorem jd_cmpI {op : CmpOp} {g : Int → Int → Bool} (ho : OpR X (compareOp op) (rI0 fun i j => .bl (g i j))) (ha : Jd X M a σ H (.int i)) (hb : Jd X M b σ H (.int j)) (hm : behindInMarks op b = false) : Jd X M (.Compare a [op] [b] pos) σ H (.bool (g i j)) := fun al H1 x Q q =>
  leW (pe_cmpR ho pe_W pe_W hm) (ha al H1 x _ fun v H2 y p => hb al H2 (x.trans y) _ fun w H3 z r => ⟨i, j, dInt p, dInt r, q _ H3 (y.trans z) (.bl _)⟩)
theorem jt_cmpI {op : CmpOp} {g : Int → Int → Bool} (ho : OpR X (compareOp op) (rI0 fun i j => .bl (g i j))) (ha : Jd X M a σ H (.int i)) (hb : Jd X M b σ H (.int j)) (hm : behindInMarks op b = false) : Jt X M (.Compare a [op] [b] pos) σ H (g i j) := fun al H1 x Q q =>
  leT (pt_cmpR ho pe_W pe_W hm) (ha al H1 x _ fun v H2 y p => hb al H2 (x.trans y) _ fun w H3 z r => ⟨i, j, dInt p, dInt r, _, rfl, q H3 (y.trans z)⟩)
theorem nm {op : CmpOp} (b : Expr) (h : (op == .In) = false) (h2 : (op == .NotIn) = false) : behindInMarks op b = false := nobehind b (fun z => by subst z; cases h) fun z => by subst z; cases h2
theorem jd_lt (ha : Jd X M a σ H (.int i)) (hb : Jd X M b σ H (.int j)) : Jd X M (.Compare a [.Lt] [b] pos) σ H (.bool (decide (i < j))) := jd_cmpI op_lt ha hb (nm b rfl rfl)
theorem jd_le (ha : Jd X M a σ H (.int i)) (hb : Jd X M b σ H (.int j)) : Jd X M (.Compare a [.LtE] [b] pos) σ H (.bool (decide (i ≤ j))) := jd_cmpI op_le ha hb (nm b rfl rfl)
theorem jd_gt (ha : Jd X M a σ H (.int i)) (hb : Jd X M b σ H (.int j)) : Jd X M (.Compare a [.Gt] [b] pos) σ H (.bool (decide (j < i))) := jd_cmpI op_gt ha hb (nm b rfl rfl)
theorem jd_ge (ha : Jd X M a σ H (.int i)) (hb : Jd X M b σ H (.int j)) : Jd X M (.Compare a [.GtE] [b] pos) σ H (.bool (decide (j ≤ i))) := jd_cmpI op_ge ha hb (nm b rfl rfl)
theorem jt_lt (ha : Jd X M a σ H (.int i)) (hb : Jd X M b σ H (.int j)) : Jt X M (.Compare a [.Lt] [b] pos) σ H (decide (i < j)) := jt_cmpI op_lt ha hb (nm b rfl rfl)
theorem jt_le (ha : Jd X M a σ H (.int i)) (hb : Jd X M b σ H (.int j)) : Jt X M (.Compare a [.LtE] [b] pos) σ H (decide (i ≤ j)) := jt_cmpI op_le ha hb (nm b rfl rfl)
theorem jt_gt (ha : Jd X M a σ H (.int i)) (hb : Jd X M b σ H (.int j)) : Jt X M (.Compare a [.Gt] [b] pos) σ H (decide (j < i)) := jt_cmpI op_gt ha hb (nm b rfl rfl)
theorem jt_ge (ha : Jd X M a σ H (.int i)) (hb : Jd X M b σ H (.int j)) : Jt X M (.Compare a [.GtE] [b] pos) σ H (decide (j ≤ i)) := jt_cmpI op_ge ha hb (nm b rfl rfl)
/-- a <= b <= c -/
theorem jt_chain {op op' : CmpOp} {g g' : Int → Int → Bool} {k : Int} (ho : OpR X (compareOp op) (rI0 fun i j => .bl (g i j))) (ho' : OpR X (compareOp op') (rI0 fun i j => .bl (g' i j))) (ha : Jd X M a σ H (.int i)) (hb : Jd X M b σ H (.int j)) (hc : Jd X M c σ H (.int k)) (hm : lastMarks [op, op'] [b, c] = false) :
    Jt X M (.Compare a [op, op'] [b, c] pos) σ H (g i j && g' j k) := fun al H1 x Q q =>
  leT (pt_chain ho ho' pe_W pe_W pe_W hm) (ha al H1 x _ fun v H2 y p => hb al H2 (x.trans y) _ fun w H3 z r => ⟨i, j, dInt p, dInt r, _, rfl, by
    cases e : g i j with
    | true =>
      rw [e, Bool.true_and] at q
      rw [if_pos rfl]
      exact hc al H3 ((x.trans y).trans z) _ fun u H4 z2 r2 => ⟨j, k, dInt r, dInt r2, _, rfl, q H4 ((y.trans z).trans z2)⟩
    | false =>
      rw [e, Bool.false_and] at q
      rw [if_neg Bool.false_ne_true]
      exact ⟨_, rfl, q H3 (y.trans z)⟩⟩)
theorem jd_chain {op op' : CmpOp} {g g' : Int → Int → Bool} {k : Int} (ho : OpR X (compareOp op) (rI0 fun i j => .bl (g i j))) (ho' : OpR X (compareOp op') (rI0 fun i j => .bl (g' i j))) (ha : Jd X M a σ H (.int i)) (hb : Jd X M b σ H (.int j)) (hc : Jd X M c σ H (.int k)) (hm : lastMarks [op, op'] [b, c] = false) :
    Jd X M (.Compare a [op, op'] [b, c] pos) σ H (.bool (g i j && g' j k)) := fun al H1 x Q q =>
  leW (pe_chain ho ho' pe_W pe_W pe_W hm) (ha al H1 x _ fun v H2 y p => hb al H2 (x.trans y) _ fun w H3 z r => ⟨i, j, dInt p, dInt r, _, rfl, by
    cases e : g i j with
    | true =>
      rw [e, Bool.true_and] at q
      rw [if_pos rfl]
      exact hc al H3 ((x.trans y).trans z) _ fun u H4 z2 r2 => ⟨j, k, dInt r, dInt r2, q _ H4 ((y.trans z).trans z2) (.bl _)⟩
    | false =>
      rw [e, Bool.false_and] at q
      rw [if_neg Bool.false_ne_true]
      exact q _ H3 (y.trans z) (.bl _)⟩)
/-- == and != of data -/
theorem jd_eq (hu : X.A.units + 64 < cLine) (ha : Jd X M a σ H d) (hb : Jd X M b σ H d') (s1 : SeqAt.shaped d = true := by rfl) (s2 : SeqAt.shaped d' = true := by rfl) : Jd X M (.Compare a [.Eq] [b] pos) σ H (.bool (PyData.eqv d d')) := fun al H1 x Q q =>
  leW (pe_cmpR (op_eqD hu) pe_W pe_W (nm b rfl rfl)) (ha al H1 x _ fun v H2 y p => hb al H2 (x.trans y) _ fun w H3 z r => ⟨d, d', (p.ex (hid_ex z)).ex hid_le, r.ex hid_le, s1, s2, q _ H3 (y.trans z) (.bl _)⟩)
theorem jd_ne (hu : X.A.units + 64 < cLine) (ha : Jd X M a σ H d) (hb : Jd X M b σ H d') (s1 : SeqAt.shaped d = true := by rfl) (s2 : SeqAt.shaped d' = true := by rfl) : Jd X M (.Compare a [.NotEq] [b] pos) σ H (.bool (!PyData.eqv d d')) := fun al H1 x Q q =>
  leW (pe_cmpR (op_neD hu) pe_W pe_W (nm b rfl rfl)) (ha al H1 x _ fun v H2 y p => hb al H2 (x.trans y) _ fun w H3 z r => ⟨d, d', (p.ex (hid_ex z)).ex hid_le, r.ex hid_le, s1, s2, q _ H3 (y.trans z) (.bl _)⟩)
theorem jt_eq (hu : X.A.units + 64 < cLine) (ha : Jd X M a σ H d) (hb : Jd X M b σ H d') (s1 : SeqAt.shaped d = true := by rfl) (s2 : SeqAt.shaped d' = true := by rfl) : Jt X M (.Compare a [.Eq] [b] pos) σ H (PyData.eqv d d') := fun al H1 x Q q =>
  leT (pt_cmpR (op_eqD hu) pe_W pe_W (nm b rfl rfl)) (ha al H1 x _ fun v H2 y p => hb al H2 (x.trans y) _ fun w H3 z r => ⟨d, d', (p.ex (hid_ex z)).ex hid_le, r.ex hid_le, s1, s2, _, rfl, q H3 (y.trans z)⟩)
theorem jt_ne (hu : X.A.units + 64 < cLine) (ha : Jd X M a σ H d) (hb : Jd X M b σ H d') (s1 : SeqAt.shaped d = true := by rfl) (s2 : SeqAt.shaped d' = true := by rfl) : Jt X M (.Compare a [.NotEq] [b] pos) σ H (!PyData.eqv d d') := fun al H1 x Q q =>
  leT (pt_cmpR (op_neD hu) pe_W pe_W (nm b rfl rfl)) (ha al H1 x _ fun v H2 y p => hb al H2 (x.trans y) _ fun w H3 z r => ⟨d, d', (p.ex (hid_ex z)).ex hid_le, r.ex hid_le, s1, s2, _, rfl, q H3 (y.trans z)⟩)
/-- == of ints -/
theorem dec_eqI : decide (V.int i = V.int j) = decide (i = j) := by by_cases h : i = j <;> simp [h]
theorem jd_eqI (ha : Jd X M a σ H (.int i)) (hb : Jd X M b σ H (.int j)) : Jd X M (.Compare a [.Eq] [b] pos) σ H (.bool (decide (i = j))) := fun al H1 x Q q =>
  leW (pe_cmpR op_eq pe_W pe_W (nm b rfl rfl)) (ha al H1 x _ fun v H2 y p => hb al H2 (x.trans y) _ fun w H3 z r => by rw [dInt p, dInt r]; exact ⟨rfl, by rw [dec_eqI]; exact q _ H3 (y.trans z) (.bl _)⟩)
theorem jt_eqI (ha : Jd X M a σ H (.int i)) (hb : Jd X M b σ H (.int j)) : Jt X M (.Compare a [.Eq] [b] pos) σ H (decide (i = j)) := fun al H1 x Q q =>
  leT (pt_cmpR op_eq pe_W pe_W (nm b rfl rfl)) (ha al H1 x _ fun v H2 y p => hb al H2 (x.trans y) _ fun w H3 z r => by rw [dInt p, dInt r]; exact ⟨rfl, _, rfl, by rw [dec_eqI]; exact q H3 (y.trans z)⟩)
theorem jt_neI (ha : Jd X M a σ H (.int i)) (hb : Jd X M b σ H (.int j)) : Jt X M (.Compare a [.NotEq] [b] pos) σ H (!decide (i = j)) := fun al H1 x Q q =>
  leT (pt_cmpR op_ne pe_W pe_W (nm b rfl rfl)) (ha al H1 x _ fun v H2 y p => hb al H2 (x.trans y) _ fun w H3 z r => by rw [dInt p, dInt r]; exact ⟨rfl, _, rfl, by rw [dec_eqI]; exact q H3 (y.trans z)⟩)
theorem jd_neI (ha : Jd X M a σ H (.int i)) (hb : Jd X M b σ H (.int j)) : Jd X M (.Compare a [.NotEq] [b] pos) σ H (.bool (!decide (i = j))) := fun al H1 x Q q =>
  leW (pe_cmpR op_ne pe_W pe_W (nm b rfl rfl)) (ha al H1 x _ fun v H2 y p => hb al H2 (x.trans y) _ fun w H3 z r => by rw [dInt p, dInt r]; exact ⟨rfl, by rw [dec_eqI]; exact q _ H3 (y.trans z) (.bl _)⟩)
/-- is None -/
def isN : D → Bool
  | .none => true
  | _ => false
theorem isN_dec {K : PySem.W.Frag} {v : V} (p : Dp K H v d) : decide (v = .non) = isN d := by
  cases p <;> first | rfl | simp [isN]
theorem jd_isN {n pos'} (ha : Jd X M a σ H d) : Jd X M (.Compare a [.Is] [.Constant .none n pos'] pos) σ H (.bool (isN d)) := fun al H1 x Q q =>
  leW (pe_cmp (pc_isN pe_W)) (ha al H1 x _ fun v H2 y p => by rw [isN_dec p]; exact q _ H2 y (.bl _))
theorem jt_isN {n pos'} (ha : Jd X M a σ H d) : Jt X M (.Compare a [.Is] [.Constant .none n pos'] pos) σ H (isN d) := fun al H1 x Q q =>
  leT (pt_cmp (pc_isN pe_W)) (ha al H1 x _ fun v H2 y p => by rw [isN_dec p]; exact ⟨_, rfl, q H2 y⟩)
theorem jd_notN {n pos'} (ha : Jd X M a σ H d) : Jd X M (.Compare a [.IsNot] [.Constant .none n pos'] pos) σ H (.bool (!isN d)) := fun al H1 x Q q =>
  leW (pe_cmp (pc_notN pe_W)) (ha al H1 x _ fun v H2 y p => by rw [isN_dec p]; exact q _ H2 y (.bl _))
theorem jt_notN {n pos'} (ha : Jd X M a σ H d) : Jt X M (.Compare a [.IsNot] [.Constant .none n pos'] pos) σ H (!isN d) := fun al H1 x Q q =>
  leT (pt_cmp (pc_notN pe_W)) (ha al H1 x _ fun v H2 y p => by rw [isN_dec p]; exact ⟨_, rfl, q H2 y⟩)
/-- is True, is False, of a bool -/
theorem jd_isB {k l : Bool} (ha : Jd X M a σ H (.bool k)) (hb : Jd X M b σ H (.bool l)) : Jd X M (.Compare a [.Is] [b] pos) σ H (.bool (decide (k = l))) := fun al H1 x Q q =>
  leW (pe_cmpR op_isBl pe_W pe_W (nm b rfl rfl)) (ha al H1 x _ fun v H2 y p => hb al H2 (x.trans y) _ fun w H3 z r => ⟨k, l, dBl p, dBl r, q _ H3 (y.trans z) (.bl _)⟩)
/-- a bool as a test -/
theorem jt_val {k : Bool} (ha : Jd X M a σ H (.bool k)) (he : ∀ whole, isTrue a X.env whole = (do let v ← whole; standAt a.pos; holding [v] (truthy v)) := by intro _; rfl) : Jt X M a σ H k := fun al H1 x Q q =>
  leT (pt_val pe_W he) (ha al H1 x _ fun v H2 y p => ⟨k, dBl p, q H2 y⟩)
theorem jt_not {k : Bool} (ha : Jt X M a σ H k) : Jt X M (.UnaryOp .Not a pos) σ H (!k) := fun al H1 x Q q => leT (pt_not pt_T) (ha al H1 x _ fun H2 y => q H2 y)
theorem jt_and {k l : Bool} (ha : Jt X M a σ H k) (hb : k = true → Jt X M b σ H l) : Jt X M (.BoolOp .And [a, b] pos) σ H (k && l) := fun al H1 x Q q =>
  leT (pw_and pt_T (pw_and1 pt_T)).pt (ha al H1 x _ fun H2 y => by
    cases k with
    | true => rw [if_pos rfl]; exact hb rfl al H2 (x.trans y) _ fun H3 z => q H3 (y.trans z)
    | false => rw [if_neg Bool.false_ne_true]; exact q H2 y)
theorem jt_or {k l : Bool} (ha : Jt X M a σ H k) (hb : k = false → Jt X M b σ H l) : Jt X M (.BoolOp .Or [a, b] pos) σ H (k || l) := fun al H1 x Q q =>
  leT (pw_or pt_T (pw_or1 pt_T)).pt (ha al H1 x _ fun H2 y => by
    cases k with
    | false => rw [if_neg Bool.false_ne_true]; exact hb rfl al H2 (x.trans y) _ fun H3 z => q H3 (y.trans z)
    | true => rw [if_pos rfl]; exact q H2 y)
theorem jt_and3 {k l m : Bool} (ha : Jt X M a σ H k) (hb : k = true → Jt X M b σ H l) (hc : k = true → l = true → Jt X M c σ H m) : Jt X M (.BoolOp .And [a, b, c] pos) σ H (k && (l && m)) := fun al H1 x Q q =>
  leT (pw_and pt_T (pw_and pt_T (pw_and1 pt_T))).pt (ha al H1 x _ fun H2 y => by
    cases k with
    | true =>
      rw [if_pos rfl]
      exact hb rfl al H2 (x.trans y) _ fun H3 z => by
        cases l with
        | true => rw [if_pos rfl]; exact hc rfl rfl al H3 ((x.trans y).trans z) _ fun H4 z2 => q H4 ((y.trans z).trans z2)
        | false => rw [if_neg Bool.false_ne_true]; exact q H3 (y.trans z)
    | false => rw [if_neg Bool.false_ne_true]; exact q H2 y)
theorem jt_or3 {k l m : Bool} (ha : Jt X M a σ H k) (hb : k = false → Jt X M b σ H l) (hc : k = false → l = false → Jt X M c σ H m) : Jt X M (.BoolOp .Or [a, b, c] pos) σ H (k || (l || m)) := fun al H1 x Q q =>
  leT (pw_or pt_T (pw_or pt_T (pw_or1 pt_T))).pt (ha al H1 x _ fun H2 y => by
    cases k with
    | false =>
      rw [if_neg Bool.false_ne_true]
      exact hb rfl al H2 (x.trans y) _ fun H3 z => by
        cases l with
        | false => rw [if_neg Bool.false_ne_true]; exact hc rfl rfl al H3 ((x.trans y).trans z) _ fun H4 z2 => q H4 ((y.trans z).trans z2)
        | true => rw [if_pos rfl]; exact q H3 (y.trans z)
    | true => rw [if_pos rfl]; exact q H2 y)
/-- and, or of bools, as values -/
theorem jd_and {k : Bool} (ha : Jd X M a σ H (.bool k)) (hf : k = false → d = .bool false) (hb : k = true → Jd X M b σ H d) : Jd X M (.BoolOp .And [a, b] pos) σ H d := fun al H1 x Q q =>
  leW (pe_and pe_W (pe_one pe_W)) (ha al H1 x _ fun v H2 y p => ⟨k, dBl p, by
    cases k with
    | true => rw [if_pos rfl]; exact hb rfl al H2 (x.trans y) _ fun v H3 z => q v H3 (y.trans z)
    | false => rw [if_neg Bool.false_ne_true]; rw [hf rfl] at q; exact q _ H2 y (.bl _)⟩)
theorem jd_or {k : Bool} (ha : Jd X M a σ H (.bool k)) (hf : k = true → d = .bool true) (hb : k = false → Jd X M b σ H d) : Jd X M (.BoolOp .Or [a, b] pos) σ H d := fun al H1 x Q q =>
  leW (pe_or pe_W (pe_one pe_W)) (ha al H1 x _ fun v H2 y p => ⟨k, dBl p, by
    cases k with
    | false => rw [if_neg Bool.false_ne_true]; exact hb rfl al H2 (x.trans y) _ fun v H3 z => q v H3 (y.trans z)
    | true => rw [if_pos rfl]; rw [hf rfl] at q; exact q _ H2 y (.bl _)⟩)
theorem jd_not {k : Bool} (ha : Jd X M a σ H (.bool k)) : Jd X M (.UnaryOp .Not a pos) σ H (.bool (!k)) := fun al H1 x Q q => leW (pe_not pe_W) (ha al H1 x _ fun v H2 y p => ⟨k, dBl p, q _ H2 y (.bl _)⟩)
/-- a if t else b -/
theorem jd_if {k : Bool} (hc : Jt X M c σ H k) (ha : k = true → Jd X M a σ H d) (hb : k = false → Jd X M b σ H d) : Jd X M (.IfExp c a b pos) σ H d := fun al H1 x Q q =>
  leW (pe_ifExp pt_T pe_W pe_W) (hc al H1 x _ fun H2 y => by
    cases k with
    | true => rw [if_pos rfl]; exact ha rfl al H2 (x.trans y) _ fun v H3 z => q v H3 (y.trans z)
    | false => rw [if_neg Bool.false_ne_true]; exact hb rfl al H2 (x.trans y) _ fun v H3 z => q v H3 (y.trans z))
/-- argument lists, displays -/
theorem ja_nil : Ja X M [] σ H [] := fun _ H1 _ Q q => leA pa_nil (q [] H1 (Ex.refl H1) .nil)
theorem ja_cons {ds : List D} (ha : Jd X M e σ H d) (hr : Ja X M es σ H ds) (hs : starEach (e :: es) X.env = (false, eval e X.env) :: starEach es X.env := by rfl) : Ja X M (e :: es) σ H (d :: ds) := fun al H1 x Q q =>
  leA (pa_cons pe_W pa_A hs) (ha al H1 x _ fun v H2 y p => hr al H2 (x.trans y) _ fun vs H3 z r => q _ H3 (y.trans z) (.cons (p.ex (hid_ex z)) r))
theorem jd_tup {n} {ds : List D} (h : Ja X M es σ H ds) (hz : ds.length ≤ 100000 := by first | (simp only [List.length_cons, List.length_nil]; omega) | omega | decide) : Jd X M (.Tuple es n pos) σ H (.tuple ds) := fun al H1 x Q q =>
  leW (pe_tup pa_A) (h al H1 x _ fun vs H2 y p => ⟨by rw [p.len]; exact sz_of hz, fun a ha => q _ _ (y.trans (Ex.new ha)) (.tup (SqT.of ((al.ex (x.trans y)).newEx ha)) (p.ex (hid_ex (Ex.new ha))))⟩)
theorem jd_lst {ds : List D} (h : Ja X M es σ H ds) (hz : ds.length ≤ 100000 := by first | (simp only [List.length_cons, List.length_nil]; omega) | omega | decide) : Jd X M (.List es pos) σ H (.list ds) := fun al H1 x Q q =>
  leW (pe_lst pa_A) (h al H1 x _ fun vs H2 y p => ⟨by rw [p.len]; exact sz_of hz, fun a ha => q _ _ (y.trans (Ex.new ha)) (.lst (SqL.of ((al.ex (x.trans y)).newEx ha)) (p.ex (hid_ex (Ex.new ha))))⟩)
/-- t[i], xs[i] -/
theorem jd_ixT {ds : List D} {n : Nat} (ha : Jd X M a σ H (.tuple ds)) (hb : Jd X M b σ H (.int i)) (hi : i = (n : Int)) (hn : ds[n]? = some d) (hx : PlainIx b := by exact fun _ _ => rfl) : Jd X M (.Subscript a b pos) σ H d := fun al H1 x Q q =>
  leW (pe_ix ix_tup pe_W pe_W hx) (ha al H1 x _ fun v H2 y p => hb al H2 (x.trans y) _ fun w H3 z r => by
    obtain ⟨t, xs, e1, e2, e3⟩ := dTup p
    obtain ⟨u, e4, e5⟩ := e3.get hn
    exact ⟨t, xs, i, u, e1, dInt r, ex_t z (ex_t hid_le e2), by rw [hi]; exact atI_nat e4, q _ H3 (y.trans z) (e5.ex (hid_ex z))⟩)
theorem jd_ixL {ds : List D} {n : Nat} (ha : Jd X M a σ H (.list ds)) (hb : Jd X M b σ H (.int i)) (hi : i = (n : Int)) (hn : ds[n]? = some d) (hx : PlainIx b := by exact fun _ _ => rfl) : Jd X M (.Subscript a b pos) σ H d := fun al H1 x Q q =>
  leW (pe_ix ix_list pe_W pe_W hx) (ha al H1 x _ fun v H2 y p => hb al H2 (x.trans y) _ fun w H3 z r => by
    obtain ⟨t, xs, e1, e2, e3⟩ := dLst p
    obtain ⟨u, e4, e5⟩ := e3.get hn
    exact ⟨t, xs, i, u, e1, dInt r, ex_l z (ex_l hid_le e2), by rw [hi]; exact atI_nat e4, q _ H3 (y.trans z) (e5.ex (hid_ex z))⟩)
/-- built-ins by name -/
theorem jd_len {ds : List D} {p : Pos} (hm : X.mg "len" = none) (ha : Jd X M a σ H d) (h : d = .tuple ds ∨ d = .list ds) (hg : Gl X "len" := by rfl) (hs : starEach [a] X.env = (false, eval a X.env) :: starEach [] X.env := by rfl) :
    Jd X M (.Call (.Name "len" p) [a] [] pos) σ H (.int ds.length) := fun al H1 x Q q =>
  leW (pe_callB call_len_seq hg hm boot_len (pa_cons pe_W pa_nil hs) (by decide) (by decide) hs) (ha al H1 x _ fun v H2 y p => by
    rcases h with rfl | rfl
    · obtain ⟨t, xs, e1, e2, e3⟩ := dTup p
      exact ⟨t, xs, by rw [e1], .inr (ex_t hid_le e2), by rw [e3.len]; exact q _ H2 y (.int _)⟩
    · obtain ⟨t, xs, e1, e2, e3⟩ := dLst p
      exact ⟨t, xs, by rw [e1], .inl (ex_l hid_le e2), by rw [e3.len]; exact q _ H2 y (.int _)⟩)
theorem jd_B1 {id : String} {x : Str} {p : Pos} {r : List V → Hp → VK → Prop} (hc : CallR X (.builtin id) r) (hm : X.mg x = none) (hv : bootBuiltins x = some (.builtin id)) (ha : Jd X M a σ H d) (h : ∀ v H1 Q, Ex H H1 → Dp X.K (hid M H1) v d → (∀ v' H2, Ex H1 H2 → Dp X.K (hid M H2) v' d' → Q v' H2) → r [v] H1 Q) (hg : Gl X x := by rfl)
    (hn : x ≠ "__name__" := by decide) (hdb : (x == ("__debug__" : Str)) = false := by decide) (hs : starEach [a] X.env = (false, eval a X.env) :: starEach [] X.env := by rfl) : Jd X M (.Call (.Name x p) [a] [] pos) σ H d' := fun al H1 x Q q =>
  leW (pe_callB hc hg hm hv (pa_cons pe_W pa_nil hs) hn hdb hs) (ha al H1 x _ fun v H2 y p => h v H2 Q (x.trans y) p fun v' H3 z => q v' H3 (y.trans z))
theorem jd_Ty1 {T : String} {x : Str} {p : Pos} {r : List V → Hp → VK → Prop} (hc : CallR X (.type T) r) (hm : X.mg x = none) (hv : bootBuiltins x = some (.type T)) (ha : Jd X M a σ H d) (h : ∀ v H1 Q, Ex H H1 → Dp X.K (hid M H1) v d → (∀ v' H2, Ex H1 H2 → Dp X.K (hid M H2) v' d' → Q v' H2) → r [v] H1 Q) (hg : Gl X x := by rfl)
    (hn : x ≠ "__name__" := by decide) (hdb : (x == ("__debug__" : Str)) = false := by decide) (hs : starEach [a] X.env = (false, eval a X.env) :: starEach [] X.env := by rfl) : Jd X M (.Call (.Name x p) [a] [] pos) σ H d' := fun al H1 x Q q =>
  leW (pe_callTy hc hg hm hv (pa_cons pe_W pa_nil hs) hn hdb hs) (ha al H1 x _ fun v H2 y p => h v H2 Q (x.trans y) p fun v' H3 z => q v' H3 (y.trans z))
end
end J

set_option maxHeartbeats 4000000
/-! J2: what stands in the slots and in the objects that may change; statements, loops, comprehensions. -/
namespace J
open PySem PySem.Spec PyProof.Rows L2 Evl

/-- at a: an exception of the class cls that was caught -/
def exV (cls : Value) (d : Option Addr) (a : Addr) : HO := .ext fun h => ∃ oe : Obj, h.get? a = some oe ∧ Zc cls d oe ∧ ∃ vs, oe.data = .fields vs
/-- what a slot, an item, a field holds: a datum that does not change, or just this value -/
inductive Sv where
  | dat (d : D)
  | val (v : V)
  | exc (cls : Value)
def Sv.holds (K : PySem.W.Frag) (G : Hp) : Sv → V → Prop
  | .dat d, v => Dp K G v d
  | .val w, v => v = w
  | .exc cls, v => ∃ a, v = .ref a ∧ G a = some (exV cls none a)
theorem Sv.holds.ex {K : PySem.W.Frag} {G G' : Hp} {s : Sv} {v : V} (h : s.holds K G v) (e : Ex G G') : s.holds K G' v := by
  cases s with
  | dat d => exact Dp.ex h e
  | val w => exact h
  | exc cls => obtain ⟨a, h1, h2⟩ := h; exact ⟨a, h1, e _ _ h2⟩
theorem paired_ex {K : PySem.W.Frag} {G G' : Hp} (e : Ex G G') : ∀ {xs : List Sv} {vs : List V}, Paired (fun s v => s.holds K G v) xs vs → Paired (fun s v => s.holds K G' v) xs vs
  | _, _, .nil => .nil
  | _, _, .cons a b => .cons (a.ex e) (paired_ex e b)
theorem paired2_ex {κ : Type} {K : PySem.W.Frag} {G G' : Hp} (e : Ex G G') : ∀ {xs : List (κ × Sv)} {vs : List (κ × V)}, Paired (fun (p : κ × Sv) (q : κ × V) => p.1 = q.1 ∧ p.2.holds K G q.2) xs vs → Paired (fun (p : κ × Sv) (q : κ × V) => p.1 = q.1 ∧ p.2.holds K G' q.2) xs vs
  | _, _, .nil => .nil
  | _, _, .cons a b => .cons ⟨a.1, a.2.ex e⟩ (paired2_ex e b)
theorem paired_len {α β : Type} {F : α → β → Prop} : ∀ {xs : List α} {vs : List β}, Paired F xs vs → xs.length = vs.length
  | _, _, .nil => rfl
  | _, _, .cons _ b => by rw [List.length_cons, List.length_cons, paired_len b]
theorem paired_get {α β : Type} {F : α → β → Prop} : ∀ {xs : List α} {vs : List β} {i : Nat} {s : α}, Paired F xs vs → xs[i]? = some s → ∃ v, vs[i]? = some v ∧ F s v
  | _, _, _, _, .nil, e => by simp at e
  | _, _, 0, _, .cons a _, e => by simp at e; subst e; exact ⟨_, rfl, a⟩
  | _, _, i + 1, s, .cons _ t, e => by
    obtain ⟨v, h1, h2⟩ := paired_get (i := i) (s := s) t (by simpa using e)
    exact ⟨v, by simpa using h1, h2⟩
theorem paired_set {α β : Type} {F : α → β → Prop} {a : α} {b : β} (h : F a b) : ∀ {xs : List α} {vs : List β} {i : Nat}, Paired F xs vs → Paired F (xs.set i a) (vs.set i b)
  | _, _, _, .nil => .nil
  | _, _, 0, .cons _ t => .cons h t
  | _, _, i + 1, .cons x t => .cons x (paired_set h t)
theorem paired_app {α β : Type} {F : α → β → Prop} : ∀ {xs ys : List α} {vs ws : List β}, Paired F xs vs → Paired F ys ws → Paired F (xs ++ ys) (vs ++ ws)
  | _, _, _, _, .nil, h => h
  | _, _, _, _, .cons a b, h => .cons a (paired_app b h)

/-- an object that may change -/
inductive Mo where
  | lst (xs : List Sv)
  | dct (kvs : List (Key × Sv))
  | ins (C dx : Addr) (fs : List (Str × Sv))
  | tab (q : Str)
abbrev Mu := List (Addr × Mo)
def Mo.holds (K : PySem.W.Frag) (G H : Hp) (a : Addr) : Mo → Prop
  | .lst xs => ∃ vs, H a = some (.lst vs) ∧ Paired (fun s v => s.holds K G v) xs vs
  | .dct kvs => ∃ vs, H a = some (.dK vs) ∧ Paired (fun (p : Key × Sv) (q : Key × V) => p.1 = q.1 ∧ p.2.holds K G q.2) kvs vs
  | .ins C dx fs => ∃ vs, H a = some (.ins C dx vs) ∧ Paired (fun (p : Str × Sv) (q : Str × V) => p.1 = q.1 ∧ p.2.holds K G q.2) fs vs
  | .tab q => ∃ ps : Array Value, H a = some (.tbl ps) ∧ TriplesOk ps.toList ∧ ∀ (pos : Pos) (cv : Value), codeAmong pos ps.toList = some cv → ∃ c, cv = .ref c ∧ G c = some (LamX.CodeO c q)
theorem Mo.holds.mono {K : PySem.W.Frag} {G G' H H' : Hp} {a : Addr} {m : Mo} (h : m.holds K G H a) (e : Ex G G') (k : H' a = H a) : m.holds K G' H' a := by
  cases m with
  | lst xs => obtain ⟨vs, h1, h2⟩ := h; exact ⟨vs, k.trans h1, paired_ex e h2⟩
  | dct xs => obtain ⟨vs, h1, h2⟩ := h; exact ⟨vs, k.trans h1, paired2_ex e h2⟩
  | ins C dx xs => obtain ⟨vs, h1, h2⟩ := h; exact ⟨vs, k.trans h1, paired2_ex e h2⟩
  | tab q => obtain ⟨ps, h1, h2, h3⟩ := h; exact ⟨ps, k.trans h1, h2, fun pos cv z => let ⟨c, a, b⟩ := h3 pos cv z; ⟨c, a, e _ _ b⟩⟩
theorem Mo.holds.some {K : PySem.W.Frag} {G H : Hp} {a : Addr} {m : Mo} (h : m.holds K G H a) : ∃ o, H a = some o := by
  cases m with
  | lst xs => obtain ⟨vs, h1, _⟩ := h; exact ⟨_, h1⟩
  | dct xs => obtain ⟨vs, h1, _⟩ := h; exact ⟨_, h1⟩
  | ins C dx xs => obtain ⟨vs, h1, _⟩ := h; exact ⟨_, h1⟩
  | tab q => obtain ⟨ps, h1, _⟩ := h; exact ⟨_, h1⟩

abbrev Ro := List (Option Sv)
def adr (M0 : List Addr) (μ : Mu) : List Addr := μ.map (·.1) ++ M0
/-- the state: B, what stood before and stands still; M0, others' objects that may change; the slots, the own objects that may change -/
structure Sy (K : PySem.W.Frag) (B : Hp) (M0 : List Addr) (ρ : Ro) (μ : Mu) (σ : L2.St) (H : Hp) : Prop where
  sl : ∀ (i : Nat) (s : Sv), ρ[i]? = some (some s) → ∃ v, σ[i]? = some (some v) ∧ s.holds K (hid (adr M0 μ) H) v
  ln : ρ.length = σ.length
  ob : ∀ p ∈ μ, p.2.holds K (hid (adr M0 μ) H) H p.1
  al : Al M0 H
  bs : Ex B H
  nb : ∀ p ∈ μ, B p.1 = none
  dj : (μ.map (·.1)).Nodup ∧ ∀ p ∈ μ, p.1 ∉ M0
section
variable {K : PySem.W.Frag} {B B' H H1 : Hp} {M0 : List Addr} {ρ : Ro} {μ : Mu} {σ : L2.St} {d : D} {v : V}
theorem Sy.all (S : Sy K B M0 ρ μ σ H) : Al (adr M0 μ) H := fun a ha z => by
  rcases List.mem_append.mp ha with h | h
  · obtain ⟨p, hp, e⟩ := List.mem_map.mp h
    obtain ⟨o, q⟩ := (S.ob p hp).some
    rw [← e, q] at z; cases z
  · exact S.al a h z
theorem Sy.ex (S : Sy K B M0 ρ μ σ H) (e : Ex H H1) : Sy K B M0 ρ μ σ H1 where
  sl := fun i s h => let ⟨v, a, b⟩ := S.sl i s h; ⟨v, a, b.ex (hid_ex e)⟩
  ln := S.ln
  ob := fun p hp => by
    obtain ⟨o, q⟩ := (S.ob p hp).some
    exact (S.ob p hp).mono (hid_ex e) ((e _ _ q).trans q.symm)
  al := S.al.ex e
  bs := S.bs.trans e
  nb := S.nb
  dj := S.dj
theorem Sy.set (S : Sy K B M0 ρ μ σ H) {s : Sv} (i : Nat) (h : s.holds K (hid (adr M0 μ) H) v) : Sy K B M0 (ρ.set i (some s)) μ (σ.set i (some v)) H where
  sl := fun j t e => by
    by_cases hj : j = i
    · subst hj
      by_cases hl : j < ρ.length
      · rw [List.getElem?_set_self hl] at e
        cases e
        exact ⟨v, List.getElem?_set_self (by rw [← S.ln]; exact hl), h⟩
      · rw [List.getElem?_eq_none (by simpa using hl)] at e; cases e
    · rw [List.getElem?_set_ne (Ne.symm hj)] at e ⊢
      exact S.sl j t e
  ln := by rw [List.length_set, List.length_set]; exact S.ln
  ob := S.ob
  al := S.al
  bs := S.bs
  nb := S.nb
  dj := S.dj
/-- a slot forgotten -/
theorem Sy.weak (S : Sy K B M0 ρ μ σ H) {ρ' : Ro} (hl : ρ'.length = ρ.length) (h : ∀ (i : Nat) (s : Sv), ρ'[i]? = some (some s) → ρ[i]? = some (some s)) : Sy K B M0 ρ' μ σ H :=
  ⟨fun i s e => S.sl i s (h i s e), hl.trans S.ln, S.ob, S.al, S.bs, S.nb, S.dj⟩
theorem Sy.unset (S : Sy K B M0 ρ μ σ H) (i : Nat) : Sy K B M0 (ρ.set i none) μ (σ.set i none) H where
  sl := fun j t e => by
    by_cases hj : j = i
    · subst hj
      by_cases hl : j < ρ.length
      · rw [List.getElem?_set_self hl] at e; cases e
      · rw [List.getElem?_eq_none (by simpa using hl)] at e; cases e
    · rw [List.getElem?_set_ne (Ne.symm hj)] at e ⊢
      exact S.sl j t e
  ln := by rw [List.length_set, List.length_set]; exact S.ln
  ob := S.ob
  al := S.al
  bs := S.bs
  nb := S.nb
  dj := S.dj
def wip (ρ : Ro) : List Nat → Ro
  | [] => ρ
  | v :: vs => (wip ρ vs).set v none
theorem Sy.wipe (S : Sy K B M0 ρ μ σ H) : ∀ vs : List Nat, Sy K B M0 (wip ρ vs) μ (L2.wipe σ vs) H
  | [] => S
  | v :: vs => (Sy.wipe S vs).unset v
/-- what stands now, its own objects left out, is the ground of a loop -/
def grd (μ : Mu) (H : Hp) : Hp := hid (μ.map (·.1)) H
theorem Sy.grdB (S : Sy K B M0 ρ μ σ H) : Ex B (grd μ H) := fun a o e => by
  unfold grd
  rw [hid_out fun z => ?_]
  · exact S.bs a o e
  · obtain ⟨p, hp, q⟩ := List.mem_map.mp z
    rw [← q, S.nb p hp] at e; cases e
theorem Sy.grd (S : Sy K B M0 ρ μ σ H) : Sy K (J.grd μ H) M0 ρ μ σ H :=
  ⟨S.sl, S.ln, S.ob, S.al, hid_le, fun p hp => hid_in (List.mem_map.mpr ⟨p, hp, rfl⟩), S.dj⟩
theorem hid_app {M M' : List Addr} : hid M (hid M' H) = hid (M' ++ M) H := by
  funext a
  unfold hid
  by_cases h1 : a ∈ M' <;> by_cases h2 : a ∈ M <;> simp [h1, h2]
/-- the ground's facts stand -/
theorem Sy.low (S : Sy K B M0 ρ μ σ H) : Ex (hid M0 B) (hid (adr M0 μ) H) := fun a o e => by
  by_cases ha : a ∈ M0
  · rw [hid_in ha] at e; cases e
  · rw [hid_out ha] at e
    rw [hid_out fun z => ?_]
    · exact S.bs a o e
    · rcases List.mem_append.mp z with z | z
      · obtain ⟨p, hp, q⟩ := List.mem_map.mp z
        rw [← q, S.nb p hp] at e; cases e
      · exact ha z
theorem Sy.base (S : Sy K B M0 ρ μ σ H) (e : Ex B' B) : Sy K B' M0 ρ μ σ H := ⟨S.sl, S.ln, S.ob, S.al, e.trans S.bs, fun p hp => by
  cases q : B' p.1 with
  | none => rfl
  | some o => exact absurd ((e _ _ q).symm.trans (S.nb p hp)) (by simp), S.dj⟩
theorem grd_low : hid M0 (J.grd μ H) = hid (adr M0 μ) H := hid_app
/-- start of a def: its arguments are data -/
theorem sy_start {M : List Addr} {vs : List V} {ds : List D} (al : Al M H) (p : DpAll K (hid M H) vs ds) {N : List Str} : Sy K H M (ds.map (fun d => some (Sv.dat d)) ++ List.replicate (N.length - ds.length) none) [] (L2.start N vs) H where
  sl := fun i s e => by
    have l := p.len
    unfold L2.start
    by_cases hi : i < ds.length
    · rw [List.getElem?_append_left (by simpa using hi), List.getElem?_map] at e
      have e2 : ds[i]? = some ds[i] := List.getElem?_eq_getElem hi
      rw [e2] at e
      cases e
      obtain ⟨v, h1, h2⟩ := p.get e2
      refine ⟨v, ?_, h2⟩
      rw [List.getElem?_append_left (by simpa using (by omega : i < vs.length)), List.getElem?_map, h1]; rfl
    · rw [List.getElem?_append_right (by simpa using hi)] at e
      rw [List.getElem?_replicate] at e
      split at e <;> cases e
  ln := by have l := p.len; unfold L2.start; simp [l]
  ob := fun _ h => nomatch h
  al := al
  bs := Ex.refl H
  nb := fun _ h => nomatch h
  dj := ⟨List.nodup_nil, fun _ h => nomatch h⟩
end

/-! ### expressions over such a state -/
section
variable {X : Cx} {B H : Hp} {M0 : List Addr} {ρ : Ro} {μ : Mu} {σ : L2.St} {d : D} {pos : Pos} {e : Expr}
theorem Sy.at (S : Sy X.K B M0 ρ μ σ H) (n : Nat) {x : Str} (h : ρ[n]? = some (some (.dat d)) := by rfl) (hN : X.N[n]? = some x := by rfl) (hv : Vis X.env.scope x := by first | exact Or.inl rfl | exact Or.inr (Or.inl rfl) | exact Or.inr (Or.inr rfl))
    (hd : (x == ("__debug__" : Str)) = false := by decide) (hcd : (x == ("__classdict__" : Str)) = false := by decide) : Jd X (adr M0 μ) (.Name x pos) σ H d := by
  obtain ⟨v, a, b⟩ := S.sl n _ h
  exact jd_var n a b hN hv hd hcd
theorem Sy.atV (S : Sy X.K B M0 ρ μ σ H) (n : Nat) {x : Str} {v : V} (h : ρ[n]? = some (some (.val v)) := by rfl) (hN : X.N[n]? = some x := by rfl) (hv : Vis X.env.scope x := by first | exact Or.inl rfl | exact Or.inr (Or.inl rfl) | exact Or.inr (Or.inr rfl))
    (hd : (x == ("__debug__" : Str)) = false := by decide) (hcd : (x == ("__classdict__" : Str)) = false := by decide) : Jv X (.Name x pos) σ H v := by
  obtain ⟨w, a, b⟩ := S.sl n _ h
  have b : w = v := b
  subst b
  exact jv_var n a hN hv hd hcd
/-- a pure value, with a state behind it -/
theorem Sy.ev (S : Sy X.K B M0 ρ μ σ H) (h : Jd X (adr M0 μ) e σ H d) {Q : VK} (k : ∀ v H', Sy X.K B M0 ρ μ σ H' → Ex H H' → Dp X.K (hid (adr M0 μ) H') v d → Q v H') : tW X e σ H Q :=
  h S.all H (Ex.refl H) Q fun v H' x p => k v H' (S.ex x) x p
theorem Sy.te (S : Sy X.K B M0 ρ μ σ H) {b : Bool} (h : Jt X (adr M0 μ) e σ H b) {Q : Bool → Hp → Prop} (k : ∀ H', Sy X.K B M0 ρ μ σ H' → Ex H H' → Q b H') : tT X e σ H Q :=
  h S.all H (Ex.refl H) Q fun H' x => k H' (S.ex x) x
end

/-! ### statements -/
section
variable {X : Cx} {B H : Hp} {M0 : List Addr} {ρ : Ro} {μ : Mu} {σ : L2.St} {d : D} {pos : Pos} {e : Expr} {rest A C : List Stmt} {D' : Ends}
theorem tB_nil (h : D'.nx σ H) : tB X [] D' σ H := leB pss_nil h
theorem tB_cons {st : Stmt} {t : TS} (p : PS X st t) (h : t { D' with nx := tB X rest D' } σ H) : tB X (st :: rest) D' σ H := leB (pss_cons p pss_B) h
theorem sy_ret (S : Sy X.K B M0 ρ μ σ H) (h : Jd X (adr M0 μ) e σ H d) (k : ∀ v H', Ex B H' → Ex H H' → Dp X.K (hid M0 H') v d → D'.rt v H') : tB X (.Return (some e) pos :: rest) D' σ H :=
  tB_cons (ps_ret pe_W) (S.ev h fun v H' S' x p => k v H' S'.bs x (p.ex (hid_sub fun a ha => List.mem_append_right _ ha)))
theorem sy_set (n : Nat) {x : Str} {p' : Pos} (S : Sy X.K B M0 ρ μ σ H) (h : Jd X (adr M0 μ) e σ H d) (k : ∀ σ' H', Sy X.K B M0 (ρ.set n (some (.dat d))) μ σ' H' → tB X rest D' σ' H') (hN : X.N.Nodup) (hi : X.N[n]? = some x := by rfl)
    (hx : Loc X.env.scope x := by first | exact Or.inl rfl | exact Or.inr rfl) (hs : swapsWith e (some (.Name x p')) pos.line X.env = pure false := by rfl) (hf : X.fn x = true ∨ X.env.scope.names.lookup x = some .local := by first | exact .inl rfl | exact .inr rfl) :
    tB X (.Assign [.Name x p'] e pos :: rest) D' σ H :=
  tB_cons (ps_set hN hi hx pe_W hs hf) (S.ev h fun v H' S' _ p => k _ H' (S'.set n (s := .dat d) p))
theorem sy_if {b : Bool} (S : Sy X.K B M0 ρ μ σ H) (h : Jt X (adr M0 μ) e σ H b) (h1 : b = true → ∀ H', Sy X.K B M0 ρ μ σ H' → tB X A { D' with nx := tB X rest D' } σ H') (h2 : b = false → ∀ H', Sy X.K B M0 ρ μ σ H' → tB X C { D' with nx := tB X rest D' } σ H') :
    tB X (.If e A C pos :: rest) D' σ H := tB_cons (ps_if pt_T pss_B pss_B) (S.te h fun H' S' _ => by
  cases b with
  | true => rw [if_pos rfl]; exact h1 rfl H' S'
  | false => rw [if_neg Bool.false_ne_true]; exact h2 rfl H' S')
/-- if without else -/
theorem sy_when {b : Bool} (S : Sy X.K B M0 ρ μ σ H) (h : Jt X (adr M0 μ) e σ H b) (h1 : b = true → ∀ H', Sy X.K B M0 ρ μ σ H' → tB X A { D' with nx := tB X rest D' } σ H') (h2 : b = false → ∀ H', Sy X.K B M0 ρ μ σ H' → tB X rest D' σ H') :
    tB X (.If e A [] pos :: rest) D' σ H := sy_if S h h1 fun hb H' S' => tB_nil (h2 hb H' S')
end
end J

set_option maxHeartbeats 4000000
/-! J3: what is walked, targets, loops, comprehensions; defs of data and their calls. -/
namespace J
open PySem PySem.Spec PyProof.Rows L2 Evl RZ

/-! ### what is walked -/
def tI (X : Cx) (tg iter : Expr) : TI := fun σ H R => ∀ (pins : List (Addr × Obj)) (s : Shared), Inv X pins σ H s →
  wpAny (model X.prog X.w) X.A (eval iter X.env) (fun v s1 => wpAny (model X.prog X.w) X.A (pyIter v) (PIE X pins σ tg R) X.xe s1) X.xe s
theorem pi_I {X : Cx} {tg iter : Expr} : PI X tg iter (tI X tg iter) := ⟨fun pins s _ _ _ I h => h pins s I⟩
theorem leI {X : Cx} {tg iter : Expr} {t : TI} {σ : L2.St} {H : Hp} {R : It → Hp → Prop} (p : PI X tg iter t) (q : t σ H R) : tI X tg iter σ H R := fun pins s I => p.run pins s σ H R I q
/-- J gives the data ds one after another, while the ground G0 stands -/
def Yl (K : PySem.W.Frag) (G0 : Hp) (J : It) (ds : List D) : Prop :=
  ∃ (G : Hp → Prop) (Y : Nat → Hp → V → Hp → Prop), Walk J ds.length G Y ∧ (∀ H, Ex G0 H → G H) ∧
    ∀ i H x H', i < ds.length → Ex G0 H → Y i H x H' → Ex H H' ∧ ∀ M, Al M H → Ex G0 (hid M H) → ∀ d, ds[i]? = some d → Dp K (hid M H') x d
def Jw (X : Cx) (M : List Addr) (tg iter : Expr) (σ : L2.St) (H : Hp) (ds : List D) : Prop :=
  Al M H → ∀ H1, Ex H H1 → ∀ R : It → Hp → Prop, (∀ J H2, Ex H1 H2 → Yl X.K (hid M H2) J ds → R J H2) → tI X tg iter σ H1 R
section
variable {X : Cx} {M : List Addr} {tg a b : Expr} {σ : L2.St} {H : Hp} {ds es : List D} {p pos : Pos}
theorem yl_at {K : PySem.W.Frag} {G0 : Hp} {xs : List V} (h : DpAll K G0 xs ds) : ∀ i H x H', i < ds.length → Ex G0 H → YAt xs i H x H' → Ex H H' ∧ ∀ M, Al M H → Ex G0 (hid M H) → ∀ d, ds[i]? = some d → Dp K (hid M H') x d := fun i H x H' _ _ y => by
  obtain ⟨rfl, e⟩ := y
  refine ⟨Ex.refl _, fun M _ g d hd => ?_⟩
  obtain ⟨v, h1, h2⟩ := h.get hd
  rw [e] at h1
  cases h1
  exact h2.ex g
theorem jw_tup (h : Jd X M a σ H (.tuple ds)) : Jw X M tg a σ H ds := fun al H1 x R k => leI (pi_tup pe_W) (h al H1 x _ fun v H2 y q => by
  obtain ⟨t, xs, e1, e2, e3⟩ := dTup q
  refine ⟨t, e1, ⟨xs, ex_t hid_le e2⟩, k _ H2 y ⟨_, _, by rw [← e3.len]; exact walk_tup, fun H3 g => ex_t g e2, yl_at e3⟩⟩)
theorem jw_lst (h : Jd X M a σ H (.list ds)) : Jw X M tg a σ H ds := fun al H1 x R k => leI (pi_list pe_W) (h al H1 x _ fun v H2 y q => by
  obtain ⟨t, xs, e1, e2, e3⟩ := dLst q
  refine ⟨t, e1, ⟨xs, ex_l hid_le e2⟩, k _ H2 y ⟨_, _, by rw [← e3.len]; exact walk_list, fun H3 g => ex_l g e2, yl_at e3⟩⟩)
/-- lo, lo + 1, .. -/
def rgD (lo : Int) (n : Nat) : List D := (List.range n).map fun i : Nat => PyData.int (lo + (i : Int))
theorem rgD_len {lo : Int} {n : Nat} : (rgD lo n).length = n := by simp [rgD]
theorem rgD_get {lo : Int} {n i : Nat} {d : D} (h : (rgD lo n)[i]? = some d) : i < n ∧ d = .int (lo + (i : Int)) := by
  unfold rgD at h
  rw [List.getElem?_map] at h
  by_cases hi : i < n
  · rw [List.getElem?_range hi] at h
    exact ⟨hi, (Option.some.inj h).symm⟩
  · rw [List.getElem?_eq_none (by simpa using hi)] at h; cases h
theorem yl_rng {K : PySem.W.Frag} {G0 : Hp} {lo : Int} {n : Nat} : Yl K G0 (Itr lo n) (rgD lo n) := ⟨_, _, by rw [rgD_len]; exact walk_range, fun _ _ => trivial, fun i H x H' _ _ y => by
  obtain ⟨rfl, e⟩ := y
  refine ⟨Ex.refl _, fun M _ _ d hd => ?_⟩
  obtain ⟨_, e2⟩ := rgD_get hd
  rw [e, e2]
  exact .int _⟩
theorem jw_rng1 {n : Int} (hm : X.mg "range" = none) (h : Jd X M a σ H (.int n)) (hn : -(2 ^ 62) ≤ n ∧ n < 2 ^ 62) (hg : Gl X "range" := by rfl) (hs : starEach [a] X.env = [(false, eval a X.env)] := by rfl) : Jw X M tg (.Call (.Name "range" p) [a] [] pos) σ H (rgD 0 n.toNat) := fun al H1 x R k =>
  leI (pi_range1 hg hm (pa_cons pe_W pa_nil hs) hs) (h al H1 x _ fun v H2 y q => ⟨n, by rw [dInt q], hn.1, hn.2, k _ H2 y yl_rng⟩)
theorem jw_rng2 {lo n : Int} (hm : X.mg "range" = none) (h : Jd X M a σ H (.int lo)) (h2 : Jd X M b σ H (.int n)) (hn : (-(2 ^ 62) ≤ lo ∧ lo < 2 ^ 62) ∧ -(2 ^ 62) ≤ n ∧ n < 2 ^ 62) (hg : Gl X "range" := by rfl)
    (hs : starEach [a, b] X.env = [(false, eval a X.env), (false, eval b X.env)] := by rfl) (hs2 : starEach [b] X.env = [(false, eval b X.env)] := by rfl) : Jw X M tg (.Call (.Name "range" p) [a, b] [] pos) σ H (rgD lo (n - lo).toNat) := fun al H1 x R k =>
  leI (pi_range2 hg hm (pa_cons pe_W (pa_cons pe_W pa_nil hs2) (by rw [hs, hs2])) hs hs2) (h al H1 x _ fun v H2 y q => h2 al H2 (x.trans y) _ fun w H3 z r => ⟨lo, n, by rw [dInt q, dInt r], ⟨hn.1.1, hn.1.2, hn.2.1, hn.2.2⟩, k _ H3 (y.trans z) yl_rng⟩)
/-- zip -/
def zipD : List D → List D → List D
  | d :: ds, e :: es => .tuple [d, e] :: zipD ds es
  | _, _ => []
theorem zipD_len : ∀ {ds es : List D}, (zipD ds es).length = min ds.length es.length
  | [], _ => by simp [zipD]
  | _ :: _, [] => by simp [zipD]
  | d :: ds, e :: es => by simp only [zipD, List.length_cons, zipD_len (ds := ds) (es := es)]; omega
theorem zipD_get : ∀ {ds es : List D} {i : Nat} {d : D}, (zipD ds es)[i]? = some d → ∃ a b, ds[i]? = some a ∧ es[i]? = some b ∧ d = .tuple [a, b]
  | [], _, _, _, h => by simp [zipD] at h
  | _ :: _, [], _, _, h => by simp [zipD] at h
  | d :: ds, e :: es, 0, z, h => by simp [zipD] at h; exact ⟨d, e, rfl, rfl, h.symm⟩
  | d :: ds, e :: es, i + 1, z, h => by
    obtain ⟨a, b, h1, h2, h3⟩ := zipD_get (ds := ds) (es := es) (i := i) (d := z) (by simpa [zipD] using h)
    exact ⟨a, b, by simpa using h1, by simpa using h2, h3⟩
theorem zipD_at {ds es : List D} {i : Nat} {a b : D} : ∀ {ds es : List D} {i : Nat}, ds[i]? = some a → es[i]? = some b → (zipD ds es)[i]? = some (.tuple [a, b])
  | [], _, _, h, _ => by simp at h
  | _ :: _, [], _, _, h => by simp at h
  | d :: ds, e :: es, 0, h, h2 => by simp at h h2; simp [zipD, h, h2]
  | d :: ds, e :: es, i + 1, h, h2 => by simpa [zipD] using zipD_at (ds := ds) (es := es) (i := i) (by simpa using h) (by simpa using h2)
theorem yl_pair {K : PySem.W.Frag} {G0 : Hp} {f g : Nat → Option V} {ds es : List D} (hf : ∀ (i : Nat) (d : D), ds[i]? = some d → ∃ v, f i = some v ∧ Dp K G0 v d) (hg : ∀ (i : Nat) (d : D), es[i]? = some d → ∃ v, g i = some v ∧ Dp K G0 v d) :
    ∀ i H x H', i < (zipD ds es).length → Ex G0 H → YPair f g i H x H' → Ex H H' ∧ ∀ M, Al M H → Ex G0 (hid M H) → ∀ d, (zipD ds es)[i]? = some d → Dp K (hid M H') x d := fun i H x H' _ _ y => by
  obtain ⟨T, u, w, e1, e2, e3, e4, e5⟩ := y
  subst e1 e3
  refine ⟨Ex.new e2, fun M al g0 d hd => ?_⟩
  obtain ⟨a, b, h1, h2, h3⟩ := zipD_get hd
  obtain ⟨v1, q1, q2⟩ := hf i a h1
  obtain ⟨v2, q3, q4⟩ := hg i b h2
  rw [e4] at q1
  rw [e5] at q3
  cases q1
  cases q3
  rw [h3]
  have up := hid_ex (M := M) (Ex.new (o := .tup [u, w]) e2)
  exact .tup (SqT.of (al.newEx e2)) (.cons ((q2.ex g0).ex up) (.cons ((q4.ex g0).ex up) .nil))
theorem walk_zipT {K : PySem.W.Frag} {a b : Addr} {xs ys : List V} {n : Nat} (hn : n = min xs.length ys.length) : Walk (ItzT K a b) n (fun H => SqT K H a xs ∧ SqT K H b ys) (YPair (fun i => xs[i]?) (fun i => ys[i]?)) := by
  subst hn
  refine ⟨fun i _ hi q => ?_, fun _ q => ⟨xs, ys, q.1, q.2, by omega⟩, fun i H v H' _ q y => ?_⟩
  · have h1 : i < xs.length := by omega
    have h2 : i < ys.length := by omega
    exact ⟨xs, ys, xs[i], ys[i], q.1, q.2, by simp [h1], by simp [h2]⟩
  · obtain ⟨T, x, z, h1, h2, h3, h4, h5⟩ := y
    exact ⟨T, x, z, h1, h2, h3, h4 xs q.1, h5 ys q.2⟩
theorem jw_zipT {elts : List Expr} {kk : Nat} {tpos : Pos} (hm : X.mg "zip" = none) (h : Jd X M a σ H (.tuple ds)) (h2 : Jd X M b σ H (.tuple es)) (hg : Gl X "zip" := by rfl) (hs : starEach [a, b] X.env = (false, eval a X.env) :: starEach [b] X.env := by rfl)
    (hs2 : starEach [b] X.env = (false, eval b X.env) :: starEach [] X.env := by rfl) (hpl : (backTo pos (starEach [b] X.env)).any (·.1) = false := by rfl) : Jw X M (.Tuple elts kk tpos) (.Call (.Name "zip" p) [a, b] [] pos) σ H (zipD ds es) := fun al H1 x R k =>
  leI (pi_zipA hg hm (pa_cons pe_W (pa_cons pe_W pa_nil hs2) hs) hs hpl) (h al H1 x _ fun v H2 y q => h2 al H2 (x.trans y) _ fun w H3 z r => by
    obtain ⟨t, xs, e1, e2, e3⟩ := dTup q
    obtain ⟨u, ys, f1, f2, f3⟩ := dTup r
    have e2' := ex_t (hid_ex (M := M) z) e2
    have e3' := e3.ex (hid_ex (M := M) z)
    refine ⟨t, u, xs, ys, by rw [e1, f1], .inr ⟨ex_t hid_le e2', ex_t hid_le f2, k _ H3 (y.trans z) ⟨_, _, walk_zipT (by rw [zipD_len, e3.len, f3.len]), fun H4 g => ⟨ex_t g e2', ex_t g f2⟩, yl_pair (fun i d hd => e3'.get hd) (fun i d hd => f3.get hd)⟩⟩⟩)
theorem jw_zipL {elts : List Expr} {kk : Nat} {tpos : Pos} (hm : X.mg "zip" = none) (h : Jd X M a σ H (.list ds)) (h2 : Jd X M b σ H (.list es)) (hg : Gl X "zip" := by rfl) (hs : starEach [a, b] X.env = (false, eval a X.env) :: starEach [b] X.env := by rfl)
    (hs2 : starEach [b] X.env = (false, eval b X.env) :: starEach [] X.env := by rfl) (hpl : (backTo pos (starEach [b] X.env)).any (·.1) = false := by rfl) : Jw X M (.Tuple elts kk tpos) (.Call (.Name "zip" p) [a, b] [] pos) σ H (zipD ds es) := fun al H1 x R k =>
  leI (pi_zipA hg hm (pa_cons pe_W (pa_cons pe_W pa_nil hs2) hs) hs hpl) (h al H1 x _ fun v H2 y q => h2 al H2 (x.trans y) _ fun w H3 z r => by
    obtain ⟨t, xs, e1, e2, e3⟩ := dLst q
    obtain ⟨u, ys, f1, f2, f3⟩ := dLst r
    have e2' := ex_l (hid_ex (M := M) z) e2
    have e3' := e3.ex (hid_ex (M := M) z)
    refine ⟨t, u, xs, ys, by rw [e1, f1], .inl ⟨ex_l hid_le e2', ex_l hid_le f2, k _ H3 (y.trans z) ⟨_, _, walk_zip (by rw [zipD_len, e3.len, f3.len]), fun H4 g => ⟨ex_l g e2', ex_l g f2⟩, yl_pair (fun i d hd => e3'.get hd) (fun i d hd => f3.get hd)⟩⟩⟩)
theorem jw_enumL {elts : List Expr} {kk : Nat} {tpos : Pos} (hm : X.mg "enumerate" = none) (h : Jd X M a σ H (.list ds)) (hg : Gl X "enumerate" := by rfl) (hs : starEach [a] X.env = [(false, eval a X.env)] := by rfl) :
    Jw X M (.Tuple elts kk tpos) (.Call (.Name "enumerate" p) [a] [] pos) σ H (zipD (rgD 0 ds.length) ds) := fun al H1 x R k =>
  leI (pi_enum hg hm (pa_cons pe_W pa_nil hs) hs) (h al H1 x _ fun v H2 y q => by
    obtain ⟨t, xs, e1, e2, e3⟩ := dLst q
    refine ⟨t, xs, by rw [e1], ex_l hid_le e2, k _ H2 y ⟨_, _, ?_, fun H4 g => ex_l g e2, yl_pair (f := fun i => some (.int (i : Nat))) (fun i d hd => ?_) (fun i d hd => e3.get hd)⟩⟩
    · have e : (zipD (rgD 0 ds.length) ds).length = xs.length := by rw [zipD_len, rgD_len, e3.len]; omega
      rw [e]
      exact walk_enum
    · obtain ⟨_, e4⟩ := rgD_get hd
      rw [e4, Int.zero_add]
      exact ⟨_, rfl, .int _⟩)
end

/-! ### targets -/
def tG (X : Cx) (tg : Expr) : TG := fun v σ H Q => ∀ (pins : List (Addr × Obj)) (s : Shared) (u : Value), Inv X pins σ H s → RelV v u →
  wpAny (model X.prog X.w) X.A (assign tg X.env u) (fun _ s' => ∃ σ' H', Inv X pins σ' H' s' ∧ Q σ' H') X.xe s
theorem pg_G {X : Cx} {tg : Expr} : PG X tg (tG X tg) := ⟨fun pins s _ _ _ u _ I r h => h pins s u I r⟩
theorem leG {X : Cx} {tg : Expr} {t : TG} {v : V} {σ : L2.St} {H : Hp} {Q : L2.St → Hp → Prop} (p : PG X tg t) (q : t v σ H Q) : tG X tg v σ H Q := fun pins s u I r => p.run pins s σ H v u Q I r q
def tGs (X : Cx) (ts : List Expr) : TGs := fun vs σ H Q => ∀ (pins : List (Addr × Obj)) (s : Shared) (us : List Value), Inv X pins σ H s → Vals vs us →
  wpAny (model X.prog X.w) X.A (assignInOrder ((assignEach ts X.env).map (·.2)) us) (fun _ s' => ∃ σ' H', Inv X pins σ' H' s' ∧ Q σ' H') X.xe s
theorem pgs_G {X : Cx} {ts : List Expr} : PGs X ts (tGs X ts) := ⟨fun pins s _ _ _ us _ I r h => h pins s us I r⟩
theorem leGs {X : Cx} {ts : List Expr} {t : TGs} {vs : List V} {σ : L2.St} {H : Hp} {Q : L2.St → Hp → Prop} (p : PGs X ts t) (q : t vs σ H Q) : tGs X ts vs σ H Q := fun pins s us I r => p.run pins s σ H vs us Q I r q
/-- storing the datum d at the target turns ρ into ρ2; the slots js alone are written -/
def Jg (X : Cx) (tg : Expr) (js : List Nat) (d : D) (ρ ρ2 : Ro) : Prop := ∀ (B : Hp) (M0 : List Addr) (μ : Mu) (σ : L2.St) (H : Hp) (v : V), Sy X.K B M0 ρ μ σ H → Dp X.K (hid (adr M0 μ) H) v d →
  ∀ Q : L2.St → Hp → Prop, (∀ σ2, Sy X.K B M0 ρ2 μ σ2 H → σ2.length = σ.length → (∀ i, i ∉ js → σ2[i]? = σ[i]?) → Q σ2 H) → tG X tg v σ H Q
def Jgs (X : Cx) (ts : List Expr) (js : List Nat) (ds : List D) (ρ ρ2 : Ro) : Prop := ∀ (B : Hp) (M0 : List Addr) (μ : Mu) (σ : L2.St) (H : Hp) (vs : List V), Sy X.K B M0 ρ μ σ H → DpAll X.K (hid (adr M0 μ) H) vs ds →
  ∀ Q : L2.St → Hp → Prop, (∀ σ2, Sy X.K B M0 ρ2 μ σ2 H → σ2.length = σ.length → (∀ i, i ∉ js → σ2[i]? = σ[i]?) → Q σ2 H) → tGs X ts vs σ H Q
section
variable {X : Cx} {ρ ρ1 ρ2 : Ro} {d : D} {ds : List D} {pos : Pos} {js ks : List Nat}
theorem jg_name (j : Nat) {x : Str} (hN : X.N.Nodup) (hi : X.N[j]? = some x := by rfl) (hx : Loc X.env.scope x := by first | exact Or.inl rfl | exact Or.inr rfl) (hf : X.fn x = true ∨ X.env.scope.names.lookup x = some .local := by first | exact .inl rfl | exact .inr rfl) :
    Jg X (.Name x pos) [j] d ρ (ρ.set j (some (.dat d))) := fun B M0 μ σ H v S p Q k =>
  leG (pg_name hN hi hx hf) (k _ (S.set j (s := .dat d) p) (by simp) fun i hi => by rw [List.getElem?_set_ne (by intro z; exact hi (by simp [z]))])
theorem jgs_nil : Jgs X [] [] [] ρ ρ := fun B M0 μ σ H vs S p Q k => leGs pgs_nil (by cases p; exact ⟨rfl, k σ S rfl fun _ _ => rfl⟩)
theorem jgs_cons {e : Expr} {es : List Expr} (h1 : Jg X e js d ρ ρ1) (h2 : Jgs X es ks ds ρ1 ρ2) (hs : (assignEach (e :: es) X.env).map (·.2) = assign e X.env :: (assignEach es X.env).map (·.2) := by rfl) : Jgs X (e :: es) (js ++ ks) (d :: ds) ρ ρ2 := fun B M0 μ σ H vs S p Q k =>
  leGs (pgs_cons pg_G pgs_G hs) (by
    cases p with
    | cons a b => exact ⟨_, _, rfl, h1 B M0 μ σ H _ S a _ fun σ1 S1 l1 o1 => h2 B M0 μ σ1 H _ S1 b Q fun σ2 S2 l2 o2 => k σ2 S2 (l2.trans l1) fun i hi => (o2 i fun z => hi (List.mem_append_right _ z)).trans (o1 i fun z => hi (List.mem_append_left _ z))⟩)
theorem jg_tup {es : List Expr} {n : Nat} (hc : X.calm = true) (h : Jgs X es js ds ρ ρ2) (hn : (assignEach es X.env).length = ds.length := by rfl) (hst : (assignEach es X.env).findIdx? (·.1) = none := by rfl) : Jg X (.Tuple es n pos) js (.tuple ds) ρ ρ2 := fun B M0 μ σ H v S p Q k =>
  leG (pg_tup hc pgs_G rfl hst) (by
    obtain ⟨a, xs, e1, e2, e3⟩ := dTup p
    exact ⟨a, xs, e1, ex_t hid_le e2, by rw [e3.len, hn], h B M0 μ σ H xs S e3 Q k⟩)
end

/-! ### for -/
section
variable {X : Cx} {B H : Hp} {M0 : List Addr} {ρ : Ro} {μ : Mu} {σ : L2.St} {ds : List D} {pos : Pos} {tg iter : Expr} {body rest : List Stmt} {D' : Ends} {js : List Nat}
theorem sy_for (S : Sy X.K B M0 ρ μ σ H) (hw : Jw X (adr M0 μ) tg iter σ H ds) (f : D → Ro → Ro) (hg : ∀ d ρ', d ∈ ds → Jg X tg js d ρ' (f d ρ')) (I : Nat → Ro → Mu → Prop) (h0 : I 0 ρ μ)
    (hs : ∀ i d ρ' μ' σ' H' B', ds[i]? = some d → I i ρ' μ' → Ex B B' → Sy X.K B' M0 (f d ρ') μ' σ' H' →
      tB X body ⟨fun σ2 H2 => ∃ ρ2 μ2, I (i + 1) ρ2 μ2 ∧ Sy X.K B' M0 ρ2 μ2 σ2 H2, D'.rt, tB X rest D', fun σ2 H2 => ∃ ρ2 μ2, I (i + 1) ρ2 μ2 ∧ Sy X.K B' M0 ρ2 μ2 σ2 H2⟩ σ' H')
    (hd : ∀ ρ' μ' σ' H', I ds.length ρ' μ' → Sy X.K B M0 ρ' μ' σ' H' → tB X rest D' σ' H')
    (hp : PassesOwn (model X.prog X.w) X.A X.env X.xe) (hc : X.calm = true) (hfs : ∀ x, foldedSetIterable iter X.env x = pure x := by intro _; rfl) : tB X (.For tg iter body [] pos :: rest) D' σ H :=
  tB_cons (ps_for hp hc pi_I pg_G pss_B hfs) (hw S.all H (Ex.refl H) _ fun J H2 x2 yl => by
    have S2 := S.ex x2
    obtain ⟨G, Y, w, hG, hY⟩ := yl
    have low : hid M0 (grd μ H2) = hid (adr M0 μ) H2 := grd_low
    refine for_it w (fun i σ' H' => ∃ ρ' μ', I i ρ' μ' ∧ Sy X.K (grd μ H2) M0 ρ' μ' σ' H') ⟨ρ, μ, h0, S2.grd⟩ (fun i σ' H' hi ⟨ρ', μ', _, S'⟩ => hG H' ?_) (fun i x σ' H' H3 hi ⟨ρ', μ', hI, S'⟩ y => ?_) fun σ' H' ⟨ρ', μ', hI, S'⟩ => hd ρ' μ' σ' H' hI (S'.base S2.grdB)
    · rw [← low]; exact S'.low.trans hid_le
    · have g0 : Ex (hid (adr M0 μ) H2) (hid (adr M0 μ') H') := by rw [← low]; exact S'.low
      obtain ⟨x3, dx⟩ := hY i H' x H3 hi (g0.trans hid_le) y
      have hdi : ds[i]? = some ds[i] := List.getElem?_eq_getElem hi
      have p := dx (adr M0 μ') S'.all g0 ds[i] hdi
      have S3 := S'.ex x3
      exact hg ds[i] ρ' (List.getElem_mem hi) _ _ _ _ _ _ S3 p _ fun σ4 S4 _ _ => hs i ds[i] ρ' μ' σ4 H3 (grd μ H2) hdi hI S2.grdB S4)
end

/-! ### comprehensions -/
def Blk (X : Cx) (scope : Scope) (X' : Cx) : Prop := ∃ (s : Shared) (H : Hp) (C : Addr) (cl : List (Str × Addr)) (fp : List Addr), X' = X.blk s H scope (compEnvC scope cl C X.env) fp
def tWb (X : Cx) (scope : Scope) (e : Expr) : TE := fun σ H Q => ∀ X', Blk X scope X' → tW X' e σ H Q
def tGb (X : Cx) (scope : Scope) (tg : Expr) : TG := fun v σ H Q => ∀ X', Blk X scope X' → tG X' tg v σ H Q
def tTs (X : Cx) (ifs : List Expr) : TT := fun σ H Q => ∀ (pins : List (Addr × Obj)) (s : Shared), Inv X pins σ H s →
  wpAny (model X.prog X.w) X.A (forIn ifs true fun c r => if r = true then do let ok ← isTrue c X.env (eval c X.env); pure (ForInStep.yield ok) else pure (ForInStep.yield r)) (TP X pins σ Q) X.xe s
theorem pts_T {X : Cx} {ifs : List Expr} : PTs X ifs (tTs X ifs) := ⟨fun pins s _ _ _ I h => h pins s I⟩
def tTsb (X : Cx) (scope : Scope) (ifs : List Expr) : TT := fun σ H Q => ∀ X', Blk X scope X' → tTs X' ifs σ H Q
def Jts (X : Cx) (M : List Addr) (ifs : List Expr) (σ : L2.St) (H : Hp) (b : Bool) : Prop := Al M H → ∀ H1, Ex H H1 → ∀ Q : Bool → Hp → Prop, (∀ H2, Ex H1 H2 → Q b H2) → tTs X ifs σ H1 Q
theorem jts_nil {X : Cx} {M : List Addr} {σ : L2.St} {H : Hp} : Jts X M [] σ H true := fun _ H1 _ Q k pins s I => pts_nil.run pins s σ H1 Q I (k H1 (Ex.refl H1))
theorem jts_one {X : Cx} {M : List Addr} {σ : L2.St} {H : Hp} {c : Expr} {b : Bool} (h : Jt X M c σ H b) : Jts X M [c] σ H b := fun al H1 x Q k pins s I => (pts_one pt_T).run pins s σ H1 Q I (h al H1 x Q k)
theorem wipe_eq {σ σ2 : L2.St} {vs : List Nat} (hl : σ2.length = σ.length) (h : ∀ i, i ∉ vs → σ2[i]? = σ[i]?) : L2.wipe σ2 vs = L2.wipe σ vs := by
  have key : ∀ (τ : L2.St) (i : Nat), i ∈ vs → (L2.wipe τ vs)[i]? = if i < τ.length then some none else none := fun τ i hi => by
    by_cases hlt : i < τ.length
    · rw [if_pos hlt]
      have hlt2 : i < (L2.wipe τ vs).length := by rw [wipe_length]; exact hlt
      rw [List.getElem?_eq_getElem hlt2]
      congr 1
      cases q : (L2.wipe τ vs)[i] with
      | none => rfl
      | some x =>
        have q2 : (L2.wipe τ vs)[i]? = some (some x) := by rw [List.getElem?_eq_getElem hlt2, q]
        exact absurd hi (wipe_some q2).2
    · rw [if_neg hlt, List.getElem?_eq_none (by rw [wipe_length]; omega)]
  refine List.ext_getElem? fun i => ?_
  by_cases hi : i ∈ vs
  · rw [key _ i hi, key _ i hi, hl]
  · rw [wipe_out hi, wipe_out hi, h i hi]
/-- e makes a new list of these data -/
def Jn (X : Cx) (M : List Addr) (e : Expr) (σ : L2.St) (H : Hp) (ds : List D) : Prop := Al M H → ∀ H1, Ex H H1 → ∀ Q : VK, (∀ a vs H2, Ex H1 H2 → H1 a = none → H2 a = some (.lst vs) → DpAll X.K (hid (a :: M) H2) vs ds → Q (.ref a) H2) → tW X e σ H1 Q
theorem Jn.jd {X : Cx} {M : List Addr} {e : Expr} {σ : L2.St} {H : Hp} {ds : List D} (h : Jn X M e σ H ds) : Jd X M e σ H (.list ds) := fun al H1 x Q q => h al H1 x Q fun a vs H2 y hn ha p => by
  have hM : a ∉ M := (al.ex x).out hn
  exact q _ H2 y (.lst (SqL.of (by rw [hid_out hM]; exact ha)) (p.ex (hid_sub fun b hb => List.mem_cons_of_mem _ hb)))
section
variable {X : Cx} {B H : Hp} {M0 : List Addr} {ρ : Ro} {μ : Mu} {σ : L2.St} {ds : List D} {pos : Pos} {tg iter elt : Expr} {ifs : List Expr} {scope : Scope} {own : List (Str × Nat)} {js : List Nat}
theorem fm_snoc {out : List (Option D)} {i : Nat} {o : Option D} (h : out[i]? = some o) : (out.take (i + 1)).filterMap id = (out.take i).filterMap id ++ o.toList := by
  rw [List.take_add_one, h, List.filterMap_append]
  cases o <;> rfl
theorem fm_len {out : List (Option D)} : (out.filterMap id).length ≤ out.length := List.length_filterMap_le _ _
/-- [elt for tg in iter if ..]: out tells of each turn whether it gives, and what -/
theorem lcN_tree (S : Sy X.K B M0 ρ μ σ H) (hw : Jw X (adr M0 μ) tg iter σ H ds) (out : List (Option D)) (hl : out.length = ds.length) (hz : ds.length ≤ 90000) (f : D → Ro → Ro) (hjs : ∀ j ∈ js, j ∈ own.map (·.2))
    (hg : ∀ X' d, Blk X scope X' → d ∈ ds → Jg X' tg js d (wip ρ (own.map (·.2))) (f d (wip ρ (own.map (·.2)))))
    (ht : ∀ (i : Nat) (d : D) (o : Option D) X' B' M' σ' H', ds[i]? = some d → out[i]? = some o → Blk X scope X' → Sy X'.K B' M' (f d (wip ρ (own.map (·.2)))) μ σ' H' → Jts X' (adr M' μ) ifs σ' H' o.isSome)
    (he : ∀ (i : Nat) (d x : D) X' B' M' σ' H', ds[i]? = some d → out[i]? = some (some x) → Blk X scope X' → Sy X'.K B' M' (f d (wip ρ (own.map (·.2)))) μ σ' H' → Jd X' (adr M' μ) elt σ' H' x)
    {H1 : Hp} (al : Al (adr M0 μ) H) (x1 : Ex H H1) {Q : VK} (k : ∀ a vs H2, Ex H1 H2 → H1 a = none → H2 a = some (.lst vs) → DpAll X.K (hid (a :: adr M0 μ) H2) vs (out.filterMap id) → Q (.ref a) H2) :
    tLc (tI X tg iter) (tGb X scope tg) (tTsb X scope ifs) (tWb X scope elt) (own.map (·.2)) σ H1 Q := by
  have S1 := S.ex x1
  refine hw al H1 x1 _ fun J H2 x2 yl Dl hD => ?_
  have S2 := S1.ex x2
  obtain ⟨G, Y, w, hG, hY⟩ := yl
  have nD : Dl ∉ μ.map (·.1) := fun z => by
    obtain ⟨p, hp, e⟩ := List.mem_map.mp z
    obtain ⟨o, q⟩ := (S2.ob p hp).some
    rw [e, hD] at q; cases q
  have nM : Dl ∉ M0 := S2.al.out hD
  -- between two turns: all of H2 stands, the list holds what the turns gave
  let Pv : Nat → Hp → Prop := fun i H' => Ex H2 H' ∧ ∃ acc, H' Dl = some (.lst acc) ∧ DpAll X.K (hid (Dl :: adr M0 μ) H') acc ((out.take i).filterMap id)
  have st : ∀ H', Ex H2 H' → H' Dl ≠ none → Sy X.K H2 (Dl :: M0) ρ [] σ H2 → True := fun _ _ _ _ => trivial
  have mk : ∀ {H'}, Ex H2 H' → H' Dl ≠ none → Sy X.K B (Dl :: M0) ρ μ σ H' := fun {H'} e hn => by
    have ee : Ex (hid (adr M0 μ) H2) (hid (adr (Dl :: M0) μ) H') := fun a o q => by
      by_cases ha : a ∈ adr M0 μ
      · rw [hid_in ha] at q; cases q
      · rw [hid_out ha] at q
        rw [hid_out fun z => ?_]
        · exact e a o q
        · rcases List.mem_append.mp z with z | z
          · exact ha (List.mem_append_left _ z)
          · rcases List.mem_cons.mp z with z | z
            · rw [z, hD] at q; cases q
            · exact ha (List.mem_append_right _ z)
    exact ⟨fun i s h => let ⟨v, a, b⟩ := S2.sl i s h; ⟨v, a, b.ex ee⟩, S2.ln, fun p hp => by
      obtain ⟨o, q⟩ := (S2.ob p hp).some
      exact (S2.ob p hp).mono ee ((e _ _ q).trans q.symm), (S2.al.ex e).cons hn, S2.bs.trans e, S2.nb, S2.dj.1, fun p hp z => by
      rcases List.mem_cons.mp z with z | z
      · exact nD (List.mem_map.mpr ⟨p, hp, z⟩)
      · exact S2.dj.2 p hp z⟩
  have lowD : ∀ {H'}, Ex H2 H' → Ex (hid (adr M0 μ) H2) (hid (adr (Dl :: M0) μ) H') := fun {H'} e a o q => by
    by_cases ha : a ∈ adr M0 μ
    · rw [hid_in ha] at q; cases q
    · rw [hid_out ha] at q
      rw [hid_out fun z => ?_]
      · exact e a o q
      · rcases List.mem_append.mp z with z | z
        · exact ha (List.mem_append_left _ z)
        · rcases List.mem_cons.mp z with z | z
          · rw [z, hD] at q; cases q
          · exact ha (List.mem_append_right _ z)
  have sameM : ∀ {H' : Hp}, Ex (hid (adr (Dl :: M0) μ) H') (hid (Dl :: adr M0 μ) H') := fun {H'} => hid_sub fun a ha => by
    rcases List.mem_cons.mp ha with z | z
    · exact List.mem_append_right _ (by rw [z]; exact List.mem_cons_self)
    · rcases List.mem_append.mp z with z | z
      · exact List.mem_append_left _ z
      · exact List.mem_append_right _ (List.mem_cons_of_mem _ z)
  refine lc_it w (fun i H' => Pv i H') ⟨Ex.new hD, [], upd_same, .nil⟩ (fun i H' hi p => hG H' (hid_le.trans p.1)) (fun i x H' H3 hi p y => ?_) (fun H' p => ?_)
  · obtain ⟨pe, acc, pa, pd⟩ := p
    obtain ⟨x3, dx⟩ := hY i H' x H3 hi (hid_le.trans pe) y
    have nD' : H' Dl ≠ none := by rw [pa]; simp
    have S' := mk pe nD'
    have S3 := S'.ex x3
    have hdi : ds[i]? = some ds[i] := List.getElem?_eq_getElem hi
    have hoi : ∃ o, out[i]? = some o := ⟨out[i]'(by omega), List.getElem?_eq_getElem (by omega)⟩
    obtain ⟨o, hoi⟩ := hoi
    have q := dx (adr (Dl :: M0) μ) S'.all (lowD pe) ds[i] hdi
    have S3w := S3.wipe (own.map (·.2))
    intro X' hX
    have eK : X'.K = X.K := by obtain ⟨_, _, _, _, _, rfl⟩ := hX; rfl
    have S3w' : Sy X'.K B (Dl :: M0) (wip ρ (own.map (·.2))) μ (L2.wipe σ (own.map (·.2))) H3 := by rw [eK]; exact S3w
    have q' : Dp X'.K (hid (adr (Dl :: M0) μ) H3) x ds[i] := by rw [eK]; exact q
    refine hg X' ds[i] hX (List.getElem_mem hi) _ _ _ _ _ _ S3w' q' _ fun σ4 S4 l4 o4 => ⟨?_, ?_⟩
    · rw [wipe_eq (vs := own.map (·.2)) l4 fun j hj => o4 j fun z => hj (hjs j z)]
      exact wipe_eq (wipe_length _ _) fun j hj => wipe_out hj
    · intro X2 hX2
      have eK2 : X2.K = X'.K := by obtain ⟨_, _, _, _, _, rfl⟩ := hX2; exact eK.symm
      have S4' : Sy X2.K B (Dl :: M0) (f ds[i] (wip ρ (own.map (·.2)))) μ σ4 H3 := by rw [eK2]; exact S4
      refine ht i ds[i] o X2 B _ σ4 H3 hdi hoi hX2 S4' S4'.all H3 (Ex.refl H3) _ fun H5 x5 => ?_
      have S5 := S4'.ex x5
      have a5 : H5 Dl = some (.lst acc) := x5 _ _ (x3 _ _ pa)
      have up5 : Ex (hid (Dl :: adr M0 μ) H') (hid (Dl :: adr M0 μ) H5) := hid_ex (x3.trans x5)
      cases o with
      | none =>
        show Pv (i + 1) H5
        exact ⟨(pe.trans x3).trans x5, acc, a5, by rw [fm_snoc hoi]; simpa using pd.ex up5⟩
      | some z =>
        intro X3 hX3
        have eK3 : X3.K = X2.K := by obtain ⟨_, _, _, _, _, rfl⟩ := hX3; exact eK.symm.trans eK2.symm
        have S5' : Sy X3.K B (Dl :: M0) (f ds[i] (wip ρ (own.map (·.2)))) μ σ4 H5 := by rw [eK3]; exact S5
        refine he i ds[i] z X3 B _ σ4 H5 hdi hoi hX3 S5' S5'.all H5 (Ex.refl H5) _ fun v H6 x6 pv => ?_
        refine ⟨acc, x6 _ _ a5, ?_, ?_⟩
        · have := pd.len
          have h2 := fm_len (out := out.take i)
          have h3 : (out.take i).length ≤ out.length := by rw [List.length_take]; omega
          exact sz_lt (by omega)
        · have a6 := x6 _ _ a5
          refine ⟨?_, acc ++ [v], upd_same, ?_⟩
          · exact Ex.mut (((pe.trans x3).trans x5).trans x6) hD
          · rw [hid_upd List.mem_cons_self, fm_snoc hoi]
            have pv' : Dp X.K (hid (adr (Dl :: M0) μ) H6) v z := by
              have e : X3.K = X.K := (eK3.trans eK2).trans eK
              rw [← e]; exact pv
            exact (pd.ex (up5.trans (hid_ex x6))).append (.cons (pv'.ex sameM) .nil)
  · obtain ⟨pe, acc, pa, pd⟩ := p
    have e : out.take ds.length = out := by rw [← hl, List.take_length]
    rw [e] at pd
    refine k Dl acc H' (x2.trans pe) ?_ pa pd
    cases q : H1 Dl with
    | none => rfl
    | some o => rw [x2 _ _ q] at hD; cases hD
theorem sy_lcN (S : Sy X.K B M0 ρ μ σ H) (hw : Jw X (adr M0 μ) tg iter σ H ds) (out : List (Option D)) (hl : out.length = ds.length) (hz : ds.length ≤ 90000) (f : D → Ro → Ro) (hjs : ∀ j ∈ js, j ∈ own.map (·.2))
    (hg : ∀ X' d, Blk X scope X' → d ∈ ds → Jg X' tg js d (wip ρ (own.map (·.2))) (f d (wip ρ (own.map (·.2)))))
    (ht : ∀ (i : Nat) (d : D) (o : Option D) X' B' M' σ' H', ds[i]? = some d → out[i]? = some o → Blk X scope X' → Sy X'.K B' M' (f d (wip ρ (own.map (·.2)))) μ σ' H' → Jts X' (adr M' μ) ifs σ' H' o.isSome)
    (he : ∀ (i : Nat) (d x : D) X' B' M' σ' H', ds[i]? = some d → out[i]? = some (some x) → Blk X scope X' → Sy X'.K B' M' (f d (wip ρ (own.map (·.2)))) μ σ' H' → Jd X' (adr M' μ) elt σ' H' x)
    (ok : BlkOk X.N X.env.scope scope own) (hc : X.calm = true) (hN : X.N.Nodup) (hs : ∀ x, foldedSetIterable iter X.env x = pure x := by intro _; rfl) :
    Jn X (adr M0 μ) (.ListComp elt [⟨tg, iter, ifs, 0⟩] scope pos) σ H (out.filterMap id) := fun al H1 x1 Q k =>
  leW (pe_lc (own := own) (g := tGb X scope tg) (tt := tTsb X scope ifs) (te := tWb X scope elt) hc hN pi_I ok (fun s H C cl fp => ⟨fun pins s' σ' H' v u Q' I r h => h _ ⟨s, H, C, cl, fp, rfl⟩ pins s' u I r⟩)
    (fun s H C cl fp => ⟨fun pins s' σ' H' Q' I h => h _ ⟨s, H, C, cl, fp, rfl⟩ pins s' I⟩) (fun s H C cl fp => ⟨fun pins s' σ' H' Q' I h => h _ ⟨s, H, C, cl, fp, rfl⟩ pins s' I⟩) hs) (lcN_tree S hw out hl hz f hjs hg ht he al x1 k)
/-- name = a comprehension: the tree of it is to be read -/
theorem tB_setLc (n : Nat) {y : Str} {py spos : Pos} {rest : List Stmt} {D' : Ends} (h : tLc (tI X tg iter) (tGb X scope tg) (tTsb X scope ifs) (tWb X scope elt) (own.map (·.2)) σ H fun v H' => tB X rest D' (σ.set n (some v)) H') (ok : BlkOk X.N X.env.scope scope own) (hc : X.calm = true) (hN : X.N.Nodup)
    (hy : X.N[n]? = some y := by rfl) (hyl : X.env.scope.names.lookup y = some .local := by rfl) (hsw : swapsWith (.ListComp elt [⟨tg, iter, ifs, 0⟩] scope pos) (some (.Name y py)) spos.line X.env = pure true := by rfl) (hs : ∀ x, foldedSetIterable iter X.env x = pure x := by intro _; rfl) :
    tB X (.Assign [.Name y py] (.ListComp elt [⟨tg, iter, ifs, 0⟩] scope pos) spos :: rest) D' σ H :=
  tB_cons (ps_setLc (own := own) (g := tGb X scope tg) (tt := tTsb X scope ifs) (te := tWb X scope elt) hc hN hy hyl hsw pi_I ok (fun s H C cl fp => ⟨fun pins s' σ' H' v u Q' I r h => h _ ⟨s, H, C, cl, fp, rfl⟩ pins s' u I r⟩)
    (fun s H C cl fp => ⟨fun pins s' σ' H' Q' I h => h _ ⟨s, H, C, cl, fp, rfl⟩ pins s' I⟩) (fun s H C cl fp => ⟨fun pins s' σ' H' Q' I h => h _ ⟨s, H, C, cl, fp, rfl⟩ pins s' I⟩) hs) h
theorem sy_lc (S : Sy X.K B M0 ρ μ σ H) (hw : Jw X (adr M0 μ) tg iter σ H ds) (out : List (Option D)) (hl : out.length = ds.length) (hz : ds.length ≤ 90000) (f : D → Ro → Ro) (hjs : ∀ j ∈ js, j ∈ own.map (·.2))
    (hg : ∀ X' d, Blk X scope X' → d ∈ ds → Jg X' tg js d (wip ρ (own.map (·.2))) (f d (wip ρ (own.map (·.2)))))
    (ht : ∀ (i : Nat) (d : D) (o : Option D) X' B' M' σ' H', ds[i]? = some d → out[i]? = some o → Blk X scope X' → Sy X'.K B' M' (f d (wip ρ (own.map (·.2)))) μ σ' H' → Jts X' (adr M' μ) ifs σ' H' o.isSome)
    (he : ∀ (i : Nat) (d x : D) X' B' M' σ' H', ds[i]? = some d → out[i]? = some (some x) → Blk X scope X' → Sy X'.K B' M' (f d (wip ρ (own.map (·.2)))) μ σ' H' → Jd X' (adr M' μ) elt σ' H' x)
    (ok : BlkOk X.N X.env.scope scope own) (hc : X.calm = true) (hN : X.N.Nodup) (hs : ∀ x, foldedSetIterable iter X.env x = pure x := by intro _; rfl) :
    Jd X (adr M0 μ) (.ListComp elt [⟨tg, iter, ifs, 0⟩] scope pos) σ H (.list (out.filterMap id)) := (sy_lcN S hw out hl hz f hjs hg ht he ok hc hN hs).jd
end
end J

set_option maxHeartbeats 4000000
/-! J4: defs of data, their calls; further statements. -/
namespace J
open PySem PySem.Spec PyProof.Rows L2 Evl RZ

/-- a def of the module: where it stands, its promise -/
structure Fd (CX : CXT) (P : Program) (w : World) (K : PySem.W.Frag) (mg : Str → Option Value) (base : Heap) (k : Nat) (x : Str) (ps : List Str) (sp : Sp) : Prop where
  ex : ∃ f fd, mg x = some (.ref f) ∧ PySem.W.keepIn K (.ref f) = true ∧ Binds K fd ps [] ∧ FnOk P w K mg base CX k f fd ps sp
/-- a def from data to a datum: R says which -/
def spD (K : PySem.W.Frag) (n : Nat) (R : List D → D → Prop) : Sp := fun vs H Q _ => ∃ (M : List Addr) (ds : List D) (d : D), ds.length = n ∧ Al M H ∧ DpAll K (hid M H) vs ds ∧ R ds d ∧ ∀ v H2, Ex H H2 → Dp K (hid M H2) v d → Q v H2
section
variable {P : Program} {w : World} {K : PySem.W.Frag} {mg : Str → Option Value} {base : Heap} {x : Str} {st : Stmt} {f : Addr} {fd : FuncData} {N ps : List Str} {k n : Nat}
/-- the context of such a def's body -/
abbrev bodyX (P : Program) (w : World) (K : PySem.W.Frag) (mg : Str → Option Value) (base : Heap) (N : List Str) (x : Str) (st : Stmt) (f : Addr) (cdv : Value) (A : Around) (outer : List Env) (s : Shared) (H : Hp) (E : XK) : Cx :=
  (cxOf CX0 P w K mg base N x (defScope st) f cdv A outer s H E).nox
theorem fd_mk {sp : Sp} {CX : CXT} (F : FunD K x x (defArgs st) (defBody st) (defScope st) [] [] f fd) (hm : mg x = some (.ref f)) (ok : FnOk P w K mg base CX k f fd ps sp)
    (hb : ∀ (kV doc pm : Value) (an : Option Addr) (cdv ct : Value) (us : List Value), us.length = ps.length → bindArgs (PySem.W.fnOf x x (defArgs st) (defBody st) (defScope st) .none kV doc pm an cdv ct) ⟨us, []⟩ = pure (ps.zip us)) : Fd CX P w K mg base k x ps sp :=
  ⟨⟨f, fd, hm, F.kp, F.bindsN hb, ok⟩⟩
theorem ok_D {q : Str} {R : List D → D → Prop} (F : FunD K x q (defArgs st) (defBody st) (defScope st) [] [] f fd) (S : FnScope N ps (defScope st)) (hn : ps.length = n)
    (body : ∀ (cdv : Value) (A : Around) (outer : List Env) (s : Shared) (H : Hp) (E : XK) (M : List Addr) (vs : List V) (ds : List D) (d : D) (D' : Ends), Room k (bodyX P w K mg base N q st f cdv A outer s H E).A → ds.length = n → R ds d →
      Sy K H M (ds.map (fun d => some (Sv.dat d)) ++ List.replicate (N.length - ds.length) none) [] (L2.start N vs) H → (∀ v H', Ex H H' → Dp K (hid M H') v d → D'.rt v H') → (d = .none → ∀ σ' H', Ex H H' → D'.nx σ' H') →
      tB (bodyX P w K mg base N q st f cdv A outer s H E) (defBody st) D' (L2.start N vs) H) : FnOk P w K mg base CX0 (k + 1) f fd ps (spD K n R) := by
  refine F.ok S (fun vs H Q E h => ?_) (fun cdv A outer s H vs Q E hr h => ?_)
  · obtain ⟨M, ds, d, h1, h2, h3, _⟩ := h
    rw [h3.len, h1, hn]
  · obtain ⟨M, ds, d, h1, al, h3, h4, h5⟩ := h
    refine ⟨_, PSs.nox pss_B, body cdv A outer s H E M vs ds d _ hr h1 h4 (sy_start al h3) (fun v H' x p => h5 v H' x p) fun e σ' H' x => h5 .non H' x (by rw [e]; exact .non)⟩
end
section
variable {X : Cx} {M : List Addr} {σ : L2.St} {H : Hp} {d : D} {ds : List D} {k n : Nat} {x : Str} {ps : List Str} {R : List D → D → Prop} {e : Expr} {es : List Expr} {p pos : Pos}
theorem jd_call (F : Fd CX0 X.prog X.w X.K X.mg X.base k x ps (spD X.K n R)) (hr : Room k X.A) (ha : Ja X M (e :: es) σ H ds) (hl : ds.length = n) (hR : R ds d) (hg : Gl X x := by rfl) (hdb : (x == ("__debug__" : Str)) = false := by decide)
    (he : starEach (e :: es) X.env = (false, eval e X.env) :: starEach es X.env := by rfl) (hpl : (backTo pos (starEach es X.env)).any (·.1) = false := by rfl) : Jd X M (.Call (.Name x p) (e :: es) [] pos) σ H d := fun al H1 y Q q => by
  obtain ⟨f, fd, hm, hk, hb, ok⟩ := F.ex
  refine leW (pe_call (E := E0) ok hr hg hm hk hb .nil pass0 pa_A hdb he hpl) (ha al H1 y _ fun vs H2 z r => ?_)
  show spD X.K n R (vs ++ []) H2 Q E0
  rw [List.append_nil]
  exact ⟨M, ds, d, hl, (al.ex y).ex z, r, hR, fun v H3 u t => q v H3 (z.trans u) t⟩
end
/-! ### a, b = x, y and so on -/
section
variable {X : Cx} {B H : Hp} {M0 : List Addr} {ρ : Ro} {μ : Mu} {σ : L2.St} {d d2 : D} {pos : Pos} {e a b : Expr} {rest A C body : List Stmt} {D' : Ends} {ds : List D}
theorem sy_par (i j : Nat) {x y : Str} {px py pt : Pos} {kt k2 pt2} (S : Sy X.K B M0 ρ μ σ H) (h : Jd X (adr M0 μ) a σ H d) (h2 : Jd X (adr M0 μ) b σ H d2) (k : ∀ σ' H', Sy X.K B M0 ((ρ.set i (some (.dat d))).set j (some (.dat d2))) μ σ' H' → tB X rest D' σ' H')
    (hc : X.calm = true) (hN : X.N.Nodup) (hij : i ≠ j) (hw : swappedStores [.Tuple [.Name x px, .Name y py] kt pt] (.Tuple [a, b] k2 pt2) X.env = pure (some [x, y])) (hi : X.N[i]? = some x := by rfl) (hj : X.N[j]? = some y := by rfl)
    (hx : X.env.scope.names.lookup x = some .local := by rfl) (hy : X.env.scope.names.lookup y = some .local := by rfl) (hs : swapsWithSole [.Tuple [.Name x px, .Name y py] kt pt] (.Tuple [a, b] k2 pt2) pos.line X.env = pure false := by rfl)
    (hs1 : starEach [a, b] X.env = (false, eval a X.env) :: starEach [b] X.env := by rfl) (hs2 : starEach [b] X.env = (false, eval b X.env) :: starEach [] X.env := by rfl) :
    tB X (.Assign [.Tuple [.Name x px, .Name y py] kt pt] (.Tuple [a, b] k2 pt2) pos :: rest) D' σ H :=
  tB_cons (ps_par hc hN hi hj hij hx hy (pa_cons pe_W (pa_cons pe_W pa_nil hs2) hs1) hw hs) (S.ev h fun v H1 S1 x1 p1 => S1.ev (h2.mono x1 S.all) fun v2 H2 S2 x2 p2 =>
    ⟨v, v2, rfl, k _ H2 ((S2.set i (s := .dat d) (p1.ex (hid_ex x2))).set j (s := .dat d2) p2)⟩)
/-- a target of any form -/
theorem sy_asg {tg : Expr} {js : List Nat} {ρ2 : Ro} (S : Sy X.K B M0 ρ μ σ H) (h : Jd X (adr M0 μ) e σ H d) (hg : Jg X tg js d ρ ρ2) (k : ∀ σ' H', Sy X.K B M0 ρ2 μ σ' H' → tB X rest D' σ' H')
    (hs : swapsWithSole [tg] e pos.line X.env = pure false := by rfl) (hw : swappedStores [tg] e X.env = pure none := by rfl) (h1 : (assignEach [tg] X.env).map (·.2) = [assign tg X.env] := by rfl) : tB X (.Assign [tg] e pos :: rest) D' σ H :=
  tB_cons (ps_asg pe_W pg_G hs hw h1) (S.ev h fun v H1 S1 x1 p1 => hg _ _ _ _ _ _ S1 p1 _ fun σ2 S2 _ _ => k σ2 H1 S2)
/-- while: I tells the state by a number that falls -/
theorem sy_while {c : Expr} (S : Sy X.K B M0 ρ μ σ H) (I : Nat → Ro → Mu → Prop) (m0 : Nat) (h0 : I m0 ρ μ)
    (hs : ∀ m ρ' μ' σ' H', I m ρ' μ' → Sy X.K B M0 ρ' μ' σ' H' → ∃ b, Jt X (adr M0 μ') c σ' H' b ∧
      (b = true → ∀ H2, Sy X.K B M0 ρ' μ' σ' H2 → tB X body ⟨fun σ2 H2 => ∃ m2 ρ2 μ2, m2 < m ∧ I m2 ρ2 μ2 ∧ Sy X.K B M0 ρ2 μ2 σ2 H2, D'.rt, tB X rest D', fun σ2 H2 => ∃ m2 ρ2 μ2, m2 < m ∧ I m2 ρ2 μ2 ∧ Sy X.K B M0 ρ2 μ2 σ2 H2⟩ σ' H2) ∧
      (b = false → ∀ H2, Sy X.K B M0 ρ' μ' σ' H2 → tB X rest D' σ' H2))
    (hp : PassesOwn (model X.prog X.w) X.A X.env X.xe) : tB X (.While c body [] pos :: rest) D' σ H :=
  tB_cons (ps_while hp pt_T pss_B) ⟨fun m σ' H' => ∃ ρ' μ', I m ρ' μ' ∧ Sy X.K B M0 ρ' μ' σ' H', ⟨m0, ρ, μ, h0, S⟩, fun m σ' H' ⟨ρ', μ', hI, S'⟩ => by
    obtain ⟨b, hb, h1, h2⟩ := hs m ρ' μ' σ' H' hI S'
    refine S'.te hb fun H2 S2 _ => ?_
    cases b with
    | true =>
      rw [if_pos rfl]
      exact ⟨fun σ2 H2 => ∃ m2 ρ2 μ2, m2 < m ∧ I m2 ρ2 μ2 ∧ Sy X.K B M0 ρ2 μ2 σ2 H2, fun σ3 H3 ⟨m2, ρ2, μ2, hm, hI2, S3⟩ => ⟨m2, hm, ρ2, μ2, hI2, S3⟩, h1 rfl H2 S2⟩
    | false => rw [if_neg Bool.false_ne_true]; exact h2 rfl H2 S2⟩
end
/-! ### further values -/
section
variable {X : Cx} {M : List Addr} {σ : L2.St} {H : Hp} {a b e : Expr} {d d' : D} {ds es : List D} {p pos : Pos} {i j : Int}
theorem jd_gcd {x : Str} (hm : X.mg x = some (.builtin "math.gcd")) (ha : Jd X M a σ H (.int i)) (hb : Jd X M b σ H (.int j)) (hg : Gl X x := by rfl) (hdb : (x == ("__debug__" : Str)) = false := by decide) (hs : starEach [a, b] X.env = (false, eval a X.env) :: starEach [b] X.env := by rfl)
    (hs2 : starEach [b] X.env = (false, eval b X.env) :: starEach [] X.env := by rfl) (hpl : (backTo pos (starEach [b] X.env)).any (·.1) = false := by rfl) : Jd X M (.Call (.Name x p) [a, b] [] pos) σ H (.int ((Nat.gcd i.natAbs j.natAbs : Nat) : Int)) := fun al H1 y Q q =>
  leW (pe_callBfun cr_gcd hg hm (pa_cons pe_W (pa_cons pe_W pa_nil hs2) hs) hdb hs hpl) (ha al H1 y _ fun v H2 z r => hb al H2 (y.trans z) _ fun w H3 u t => ⟨i, j, by rw [dInt r, dInt t], q _ H3 (z.trans u) (.int _)⟩)
theorem jd_int1 (hm : X.mg "int" = none) (ha : Jd X M a σ H (.int i)) (hg : Gl X "int" := by rfl) (hs : starEach [a] X.env = (false, eval a X.env) :: starEach [] X.env := by rfl) : Jd X M (.Call (.Name "int" p) [a] [] pos) σ H (.int i) :=
  jd_Ty1 call_int1 hm boot_int ha (fun v H1 Q _ r q => .inl ⟨i, by rw [dInt r], q _ H1 (Ex.refl _) (.int _)⟩) hg (by decide) (by decide) hs
theorem jd_abs (hm : X.mg "abs" = none) (ha : Jd X M a σ H (.int i)) (hg : Gl X "abs" := by rfl) (hs : starEach [a] X.env = (false, eval a X.env) :: starEach [] X.env := by rfl) : Jd X M (.Call (.Name "abs" p) [a] [] pos) σ H (.int ((i.natAbs : Nat) : Int)) :=
  jd_B1 call_abs hm (by decide +kernel) ha (fun v H1 Q _ r q => ⟨i, by rw [dInt r], by
    have e : (if i < 0 then -i else i) = ((i.natAbs : Nat) : Int) := by split <;> omega
    rw [e]
    exact q _ H1 (Ex.refl _) (.int _)⟩) hg (by decide) (by decide) hs
theorem jd_all {bs : List Bool} (hc : X.calm = true) (hm : X.mg "all" = none) (ha : Jd X M a σ H (.list (bs.map PyData.bool))) (hg : Gl X "all" := by rfl) (hs : starEach [a] X.env = (false, eval a X.env) :: starEach [] X.env := by rfl) :
    Jd X M (.Call (.Name "all" p) [a] [] pos) σ H (.bool (bs.all id)) :=
  jd_B1 (cr_all hc) hm (by decide +kernel) ha (fun v H1 Q _ r q => by
    obtain ⟨t, xs, e1, e2, e3⟩ := dLst r
    exact ⟨t, bs, by rw [e1], by rw [← dBlsV e3]; exact ex_l hid_le e2, q _ H1 (Ex.refl _) (.bl _)⟩) hg (by decide) (by decide) hs
theorem jd_sum {ns : List Int} (hc : X.calm = true) (hm : X.mg "sum" = none) (ha : Jd X M a σ H (.list (ns.map PyData.int))) (hg : Gl X "sum" := by rfl) (hs : starEach [a] X.env = (false, eval a X.env) :: starEach [] X.env := by rfl) :
    Jd X M (.Call (.Name "sum" p) [a] [] pos) σ H (.int ns.sum) :=
  jd_B1 (cr_sum hc) hm (by decide +kernel) ha (fun v H1 Q _ r q => by
    obtain ⟨t, xs, e1, e2, e3⟩ := dLst r
    exact ⟨t, ns, by rw [e1], by rw [← dIntsV e3]; exact ex_l hid_le e2, q _ H1 (Ex.refl _) (.int _)⟩) hg (by decide) (by decide) hs
theorem jd_tupOf (hm : X.mg "tuple" = none) (ha : Jd X M a σ H (.list ds)) (hg : Gl X "tuple" := by rfl) (hs : starEach [a] X.env = (false, eval a X.env) :: starEach [] X.env := by rfl) : Jd X M (.Call (.Name "tuple" p) [a] [] pos) σ H (.tuple ds) := fun al => by
  refine jd_Ty1 call_tuple_of hm boot_tuple ha (fun v H1 Q y r q => ?_) hg (by decide) (by decide) hs al
  obtain ⟨t, xs, e1, e2, e3⟩ := dLst r
  exact ⟨t, xs, by rw [e1], .inl ⟨ex_l hid_le e2, fun l hl => q _ _ (Ex.new hl) (.tup (SqT.of ((al.ex y).newEx hl)) (e3.ex (hid_ex (Ex.new hl))))⟩⟩
theorem jd_lstOf (hm : X.mg "list" = none) (ha : Jd X M a σ H d) (h : d = .list ds ∨ d = .tuple ds) (hg : Gl X "list" := by rfl) (hs : starEach [a] X.env = (false, eval a X.env) :: starEach [] X.env := by rfl) : Jd X M (.Call (.Name "list" p) [a] [] pos) σ H (.list ds) := fun al => by
  refine jd_Ty1 call_list_of hm (by decide +kernel) ha (fun v H1 Q y r q => ?_) hg (by decide) (by decide) hs al
  rcases h with rfl | rfl
  · obtain ⟨t, xs, e1, e2, e3⟩ := dLst r
    exact ⟨t, xs, by rw [e1], .inl (ex_l hid_le e2), fun l hl => q _ _ (Ex.new hl) (.lst (SqL.of ((al.ex y).newEx hl)) (e3.ex (hid_ex (Ex.new hl))))⟩
  · obtain ⟨t, xs, e1, e2, e3⟩ := dTup r
    exact ⟨t, xs, by rw [e1], .inr (ex_t hid_le e2), fun l hl => q _ _ (Ex.new hl) (.lst (SqL.of ((al.ex y).newEx hl)) (e3.ex (hid_ex (Ex.new hl))))⟩
theorem jd_min2 (hc : X.calm = true) (hm : X.mg "min" = none) (ha : Jd X M a σ H (.int i)) (hb : Jd X M b σ H (.int j)) (hg : Gl X "min" := by rfl) (hs : starEach [a, b] X.env = (false, eval a X.env) :: starEach [b] X.env := by rfl)
    (hs2 : starEach [b] X.env = (false, eval b X.env) :: starEach [] X.env := by rfl) (hpl : (backTo pos (starEach [b] X.env)).any (·.1) = false := by rfl) : Jd X M (.Call (.Name "min" p) [a, b] [] pos) σ H (.int (if j < i then j else i)) := fun al H1 y Q q =>
  leW (pe_callB (call_min2 hc) hg hm (by decide +kernel) (pa_cons pe_W (pa_cons pe_W pa_nil hs2) hs) (by decide) (by decide) hs hpl) (ha al H1 y _ fun v H2 z r => hb al H2 (y.trans z) _ fun w H3 u t => ⟨i, j, by rw [dInt r, dInt t], q _ H3 (z.trans u) (.int _)⟩)
/-- isinstance(e, T), T a built-in class -/
def tyD : D → String
  | .none => "NoneType"
  | .bool _ => "bool"
  | .int _ => "int"
  | .str _ => "str"
  | .list _ => "list"
  | .tuple _ => "tuple"
  | .dict _ => "dict"
/-- the answers for data -/
def dIsI : D → Bool
  | .int _ => true
  | .bool _ => true
  | _ => false
def dIsB : D → Bool
  | .bool _ => true
  | _ => false
def dIsS : D → Bool
  | .str _ => true
  | _ => false
def dIsL : D → Bool
  | .list _ => true
  | _ => false
def dIsT : D → Bool
  | .tuple _ => true
  | _ => false
def dIsD : D → Bool
  | .dict _ => true
  | _ => false
theorem kit_int : ∀ d : D, kitB (tyD d) "int" = some (dIsI d)
  | .none => (by decide +kernel : kitB "NoneType" "int" = some false)
  | .bool _ => (by decide +kernel : kitB "bool" "int" = some true)
  | .int _ => (by decide +kernel : kitB "int" "int" = some true)
  | .str _ => (by decide +kernel : kitB "str" "int" = some false)
  | .list _ => (by decide +kernel : kitB "list" "int" = some false)
  | .tuple _ => (by decide +kernel : kitB "tuple" "int" = some false)
  | .dict _ => (by decide +kernel : kitB "dict" "int" = some false)
theorem kit_bool : ∀ d : D, kitB (tyD d) "bool" = some (dIsB d)
  | .none => (by decide +kernel : kitB "NoneType" "bool" = some false)
  | .bool _ => (by decide +kernel : kitB "bool" "bool" = some true)
  | .int _ => (by decide +kernel : kitB "int" "bool" = some false)
  | .str _ => (by decide +kernel : kitB "str" "bool" = some false)
  | .list _ => (by decide +kernel : kitB "list" "bool" = some false)
  | .tuple _ => (by decide +kernel : kitB "tuple" "bool" = some false)
  | .dict _ => (by decide +kernel : kitB "dict" "bool" = some false)
theorem kit_str : ∀ d : D, kitB (tyD d) "str" = some (dIsS d)
  | .none => (by decide +kernel : kitB "NoneType" "str" = some false)
  | .bool _ => (by decide +kernel : kitB "bool" "str" = some false)
  | .int _ => (by decide +kernel : kitB "int" "str" = some false)
  | .str _ => (by decide +kernel : kitB "str" "str" = some true)
  | .list _ => (by decide +kernel : kitB "list" "str" = some false)
  | .tuple _ => (by decide +kernel : kitB "tuple" "str" = some false)
  | .dict _ => (by decide +kernel : kitB "dict" "str" = some false)
theorem kit_list : ∀ d : D, kitB (tyD d) "list" = some (dIsL d)
  | .none => (by decide +kernel : kitB "NoneType" "list" = some false)
  | .bool _ => (by decide +kernel : kitB "bool" "list" = some false)
  | .int _ => (by decide +kernel : kitB "int" "list" = some false)
  | .str _ => (by decide +kernel : kitB "str" "list" = some false)
  | .list _ => (by decide +kernel : kitB "list" "list" = some true)
  | .tuple _ => (by decide +kernel : kitB "tuple" "list" = some false)
  | .dict _ => (by decide +kernel : kitB "dict" "list" = some false)
theorem kit_tuple : ∀ d : D, kitB (tyD d) "tuple" = some (dIsT d)
  | .none => (by decide +kernel : kitB "NoneType" "tuple" = some false)
  | .bool _ => (by decide +kernel : kitB "bool" "tuple" = some false)
  | .int _ => (by decide +kernel : kitB "int" "tuple" = some false)
  | .str _ => (by decide +kernel : kitB "str" "tuple" = some false)
  | .list _ => (by decide +kernel : kitB "list" "tuple" = some false)
  | .tuple _ => (by decide +kernel : kitB "tuple" "tuple" = some true)
  | .dict _ => (by decide +kernel : kitB "dict" "tuple" = some false)
theorem kit_dict : ∀ d : D, kitB (tyD d) "dict" = some (dIsD d)
  | .none => (by decide +kernel : kitB "NoneType" "dict" = some false)
  | .bool _ => (by decide +kernel : kitB "bool" "dict" = some false)
  | .int _ => (by decide +kernel : kitB "int" "dict" = some false)
  | .str _ => (by decide +kernel : kitB "str" "dict" = some false)
  | .list _ => (by decide +kernel : kitB "list" "dict" = some false)
  | .tuple _ => (by decide +kernel : kitB "tuple" "dict" = some false)
  | .dict _ => (by decide +kernel : kitB "dict" "dict" = some true)
theorem tyX_of {K : PySem.W.Frag} {G : Hp} {v : V} (r : Dp K G v d) : TyX K G v (.type (tyD d)) := by
  cases r with
  | non => exact .base .non
  | bl b => exact .base (.bl b)
  | int i => exact .base (.int i)
  | str x => exact .base (.str x)
  | lst a b =>
    rcases a with (a | ⟨o, a⟩) | ⟨o, its, n, h1, h2, h3, h4, _⟩
    · exact .base (.lst a)
    · exact .base (.frz a)
    · exact .kList h1 h2
  | tup a b =>
    rcases a with (a | ⟨o, a⟩) | ⟨o, its, n, h1, h2, h4, _⟩
    · exact .base (.tup a)
    · exact .fTuple a
    · exact .kTuple h1 h2
theorem jd_isi {T : Str} {t : String} {k : Bool} {p2 : Pos} (hm : X.mg "isinstance" = none) (hT : X.mg T = none) (hv : bootBuiltins T = some (.type t)) (ha : Jd X M a σ H d) (hk : kitB (tyD d) t = some k) (hg : Gl X "isinstance" := by rfl) (hgT : Gl X T := by rfl) (hn : T ≠ "__name__" := by decide) (hd : (T == ("__debug__" : Str)) = false := by decide)
    (hs : starEach [a, .Name T p2] X.env = (false, eval a X.env) :: starEach [.Name T p2] X.env := by rfl) (hs2 : starEach [.Name T p2] X.env = (false, eval (.Name T p2) X.env) :: starEach [] X.env := by rfl) (hpl : (backTo pos (starEach [.Name T p2] X.env)).any (·.1) = false := by rfl) :
    Jd X M (.Call (.Name "isinstance" p) [a, .Name T p2] [] pos) σ H (.bool k) := fun al H1 y Q q =>
  leW (pe_callB call_isi hg hm (by decide +kernel) (pa_cons pe_W (pa_cons (pe_bltn (v := .ty t) hgT hT hv rfl hn hd) pa_nil hs2) hs) (by decide) (by decide) hs hpl) (ha al H1 y _ fun v H2 z r =>
    ⟨v, .ty t, .type (tyD d), .type t, k, rfl, .ty t, tyX_of (r.ex hid_le), kit_ty hk, q _ H2 z (.bl _)⟩)
end
end J

set_option maxHeartbeats 4000000
/-! J5: defs that may raise. -/
namespace J
open PySem PySem.Spec PyProof.Rows L2 Evl RZ
/-- from data to a datum (R), or an exception of some class comes out (Fl) -/
def spX (K : PySem.W.Frag) (n : Nat) (R : List D → D → Prop) (Fl : List D → Value → Prop) : Sp := fun vs H Q E => ∃ (M : List Addr) (ds : List D), ds.length = n ∧ Al M H ∧ DpAll K (hid M H) vs ds ∧
  ((∃ d, R ds d ∧ ∀ v H2, Ex H H2 → Dp K (hid M H2) v d → Q v H2) ∨ ∃ cls, Fl ds cls ∧ ∀ H2, Ex H H2 → E cls none H2)
abbrev bodyE (P : Program) (w : World) (K : PySem.W.Frag) (mg : Str → Option Value) (base : Heap) (N : List Str) (x : Str) (st : Stmt) (f : Addr) (cdv : Value) (A : Around) (outer : List Env) (s : Shared) (H : Hp) (E : XK) : Cx :=
  cxOf (CX P w) P w K mg base N x (defScope st) f cdv A outer s H E
section
variable {P : Program} {w : World} {K : PySem.W.Frag} {mg : Str → Option Value} {base : Heap} {x : Str} {st : Stmt} {f : Addr} {fd : FuncData} {N ps : List Str} {k n : Nat}
theorem bodyE_tk {cdv : Value} {A : Around} {outer : List Env} {s : Shared} {H : Hp} {E : XK} : Takes (bodyE P w K mg base N x st f cdv A outer s H E) (fun cls d _ H => E cls d H) := takes_of rfl rfl rfl rfl
theorem bodyE_pa {cdv : Value} {A : Around} {outer : List Env} {s : Shared} {H : Hp} {E : XK} : PassesOwn (model (bodyE P w K mg base N x st f cdv A outer s H E).prog (bodyE P w K mg base N x st f cdv A outer s H E).w) (bodyE P w K mg base N x st f cdv A outer s H E).A (bodyE P w K mg base N x st f cdv A outer s H E).env (bodyE P w K mg base N x st f cdv A outer s H E).xe := passes_of rfl
theorem ok_X {q : Str} {R : List D → D → Prop} {Fl : List D → Value → Prop} (F : FunD K x q (defArgs st) (defBody st) (defScope st) [] [] f fd) (S : FnScope N ps (defScope st)) (hn : ps.length = n)
    (body : ∀ (cdv : Value) (A : Around) (outer : List Env) (s : Shared) (H : Hp) (E : XK) (M : List Addr) (vs : List V) (ds : List D) (D' : Ends), Room k (bodyE P w K mg base N q st f cdv A outer s H E).A → ds.length = n →
      Sy K H M (ds.map (fun d => some (Sv.dat d)) ++ List.replicate (N.length - ds.length) none) [] (L2.start N vs) H →
      ((∃ d, R ds d ∧ (∀ v H', Ex H H' → Dp K (hid M H') v d → D'.rt v H') ∧ (d = .none → ∀ σ' H', Ex H H' → D'.nx σ' H')) ∨ ∃ cls, Fl ds cls ∧ ∀ H', Ex H H' → E cls none H') →
      tB (bodyE P w K mg base N q st f cdv A outer s H E) (defBody st) D' (L2.start N vs) H) : FnOk P w K mg base (CX P w) (k + 1) f fd ps (spX K n R Fl) := by
  refine F.ok S (fun vs H Q E h => ?_) (fun cdv A outer s H vs Q E hr h => ?_)
  · obtain ⟨M, ds, h1, h2, h3, _⟩ := h
    rw [h3.len, h1, hn]
  · obtain ⟨M, ds, h1, al, h3, h4⟩ := h
    refine ⟨_, pss_B, body cdv A outer s H E M vs ds _ hr h1 (sy_start al h3) ?_⟩
    rcases h4 with ⟨d, h5, h6⟩ | h4
    · exact .inl ⟨d, h5, fun v H' x p => h6 v H' x p, fun e σ' H' x => h6 .non H' x (by rw [e]; exact .non)⟩
    · exact .inr h4
end
theorem passE0 {X : Cx} : Passes (CX X.prog X.w) X E0 := fun _ _ _ _ _ _ _ c => by
  obtain ⟨_, _, _, _, _, _, _, _, _, _, _, _, h⟩ := c
  exact h.elim
section
variable {X : Cx} {M : List Addr} {σ : L2.St} {H : Hp} {d : D} {ds : List D} {k n : Nat} {x : Str} {ps : List Str} {R : List D → D → Prop} {Fl : List D → Value → Prop} {e : Expr} {es : List Expr} {p pos : Pos}
theorem jd_callX (F : Fd (CX X.prog X.w) X.prog X.w X.K X.mg X.base k x ps (spX X.K n R Fl)) (hr : Room k X.A) (ha : Ja X M (e :: es) σ H ds) (hl : ds.length = n) (hR : R ds d) (hg : Gl X x := by rfl) (hdb : (x == ("__debug__" : Str)) = false := by decide)
    (he : starEach (e :: es) X.env = (false, eval e X.env) :: starEach es X.env := by rfl) (hpl : (backTo pos (starEach es X.env)).any (·.1) = false := by rfl) : Jd X M (.Call (.Name x p) (e :: es) [] pos) σ H d := fun al H1 y Q q => by
  obtain ⟨f, fd, hm, hk, hb, ok⟩ := F.ex
  refine leW (pe_call (E := E0) ok hr hg hm hk hb .nil passE0 pa_A hdb he hpl) (ha al H1 y _ fun vs H2 z r => ?_)
  show spX X.K n R Fl (vs ++ []) H2 Q E0
  rw [List.append_nil]
  exact ⟨M, ds, hl, (al.ex y).ex z, r, .inl ⟨d, hR, fun v H3 u t => q v H3 (z.trans u) t⟩⟩
/-- .. it raises -/
theorem jx_call {E : XK} {cls : Value} {Q : VK} (F : Fd (CX X.prog X.w) X.prog X.w X.K X.mg X.base k x ps (spX X.K n R Fl)) (hr : Room k X.A) (tk : Takes X (fun cls d _ H => E cls d H)) (al : Al M H) (ha : Ja X M (e :: es) σ H ds) (hl : ds.length = n) (hF : Fl ds cls) (kE : ∀ H', Ex H H' → E cls none H')
    (hg : Gl X x := by rfl) (hdb : (x == ("__debug__" : Str)) = false := by decide) (he : starEach (e :: es) X.env = (false, eval e X.env) :: starEach es X.env := by rfl) (hpl : (backTo pos (starEach es X.env)).any (·.1) = false := by rfl) : tW X (.Call (.Name x p) (e :: es) [] pos) σ H Q := by
  obtain ⟨f, fd, hm, hk, hb, ok⟩ := F.ex
  refine leW (pe_call (E := E) ok hr hg hm hk hb .nil (passes_call tk fun _ _ _ _ h => h) pa_A hdb he hpl) (ha al H (Ex.refl H) _ fun vs H2 z r => ?_)
  show spX X.K n R Fl (vs ++ []) H2 Q E
  rw [List.append_nil]
  exact ⟨M, ds, hl, al.ex z, r, .inr ⟨cls, hF, fun H3 u => kE H3 (z.trans u)⟩⟩
end
section
variable {X : Cx} {B H : Hp} {M0 : List Addr} {ρ : Ro} {μ : Mu} {σ : L2.St} {d : D} {pos pos' : Pos} {e : Expr} {rest : List Stmt} {D' : Ends}
/-- an expression as a statement -/
theorem sy_expr (S : Sy X.K B M0 ρ μ σ H) (h : Jd X (adr M0 μ) e σ H d) (k : ∀ H', Sy X.K B M0 ρ μ σ H' → tB X rest D' σ H') (hs : swapsWith e none pos.line X.env = pure false := by rfl) : tB X (.Expr e pos :: rest) D' σ H :=
  tB_cons (ps_expr pe_W hs) (S.ev h fun v H' S' x p => k H' S')
theorem tB_exprX (h : tW X e σ H (fun _ H' => tB X rest D' σ H')) (hs : swapsWith e none pos.line X.env = pure false := by rfl) : tB X (.Expr e pos :: rest) D' σ H := tB_cons (ps_expr pe_W hs) h
theorem tB_raise {E : XK} {x m : Str} {j : Nat} {p p2 : Pos} {C : Addr} {newId initId : String} {bmB : List Value} {Bx : String} (Fx : ExcBaseFacts Bx newId initId bmB) (q : PySem.W.excIn X.K C bmB newId = true) (gC : X.mg x = some (.ref C)) (kC : PySem.W.keepIn X.K (.ref C) = true)
    (r : Raises X (.ref C)) (tk : Takes X (fun cls d _ H => E cls d H)) (h : E (.ref C) none H) (hc : X.calm = true := by rfl) (hg : Gl X x := by rfl) (hdb : (x == ("__debug__" : Str)) = false := by decide) : tB X (.Raise (some (.Call (.Name x p) [.Constant (.str m) j p2] [] pos)) none pos' :: rest) D' σ H :=
  tB_cons (ps_raise hc tk (pmk_own Fx q gC kC r hg hdb)) h
/-- .. of one's own class below ValueError -/
theorem tB_raiseV {E : XK} {x m : Str} {j : Nat} {p p2 : Pos} {C : Addr} (gx : PySem.W.excIn X.K C He.veBase "ValueError.__new__" = true ∧ PySem.W.keepIn X.K (.ref C) = true ∧ PySem.W.subIn X.K (.ref C) (.type "BaseException") = some true ∧ PySem.W.typeIn X.K (.ref C) = some (.type "type")) (gC : X.mg x = some (.ref C))
    (tk : Takes X (fun cls d _ H => E cls d H)) (h : E (.ref C) none H) (hc : X.calm = true := by rfl) (hg : Gl X x := by rfl) (hdb : (x == ("__debug__" : Str)) = false := by decide) : tB X (.Raise (some (.Call (.Name x p) [.Constant (.str m) j p2] [] pos)) none pos' :: rest) D' σ H :=
  tB_raise PySem.F.excBase_ValueError gx.1 gC gx.2.1 (raises_own gx.2.2.1 gx.2.2.2) tk h hc hg hdb
end
end J

set_option maxHeartbeats 4000000
/-! J6: objects that change. -/
namespace J
open PySem PySem.Spec PyProof.Rows L2 Evl RZ
section
variable {K : PySem.W.Frag} {B B' H H1 H2 : Hp} {M0 : List Addr} {ρ : Ro} {μ : Mu} {σ : L2.St} {d : D} {v : V}
theorem adr_set {i : Nat} {a : Addr} {m m' : Mo} (h : μ[i]? = some (a, m)) : adr M0 (μ.set i (a, m')) = adr M0 μ := by
  have hm : (μ.map (·.1))[i]? = some a := by rw [List.getElem?_map, h]; rfl
  unfold adr
  rw [List.map_set]
  congr 1
  refine List.ext_getElem? fun j => ?_
  by_cases hj : i = j
  · subst hj
    rw [hm, List.getElem?_set_self (List.getElem?_eq_some_iff.mp hm).1]
  · rw [List.getElem?_set_ne hj]
theorem Sy.own (S : Sy K B M0 ρ μ σ H) {i : Nat} {a : Addr} {m : Mo} (h : μ[i]? = some (a, m)) : m.holds K (hid (adr M0 μ) H) H a := S.ob _ (List.mem_of_getElem? h)
theorem Sy.inA {i : Nat} {a : Addr} {m : Mo} (h : μ[i]? = some (a, m)) : a ∈ adr M0 μ := List.mem_append_left _ (List.mem_map.mpr ⟨_, List.mem_of_getElem? h, rfl⟩)
theorem Sy.apart (S : Sy K B M0 ρ μ σ H) {i j : Nat} {a b : Addr} {m n : Mo} (h : μ[i]? = some (a, m)) (h2 : μ[j]? = some (b, n)) (hij : i ≠ j) : b ≠ a := fun e => by
  have h3 : (μ.map (·.1))[i]? = some a := by rw [List.getElem?_map, h]; rfl
  have h4 : (μ.map (·.1))[j]? = some a := by rw [List.getElem?_map, h2, ← e]; rfl
  exact hij ((List.getElem?_inj (List.getElem?_eq_some_iff.mp h3).1 S.dj.1).mp (h3.trans h4.symm))
/-- one of them changes -/
theorem Sy.upd (S : Sy K B M0 ρ μ σ H) {i : Nat} {a : Addr} {m : Mo} {o : HO} (m' : Mo) (h : μ[i]? = some (a, m)) (ho : m'.holds K (hid (adr M0 μ) H) (L2.upd H a o) a) : Sy K B M0 ρ (μ.set i (a, m')) σ (L2.upd H a o) := by
  have e : adr M0 (μ.set i (a, m')) = adr M0 μ := adr_set h
  have e2 : hid (adr M0 μ) (L2.upd H a o) = hid (adr M0 μ) H := hid_upd (Sy.inA h)
  have hi : i < μ.length := (List.getElem?_eq_some_iff.mp h).1
  have hmap : (μ.set i (a, m')).map (·.1) = μ.map (·.1) := List.append_cancel_right (show _ ++ M0 = _ ++ M0 from e)
  have mem : ∀ p ∈ μ.set i (a, m'), ∃ q ∈ μ, p.1 = q.1 := fun p hp => by
    have : p.1 ∈ (μ.set i (a, m')).map (·.1) := List.mem_map.mpr ⟨p, hp, rfl⟩
    rw [hmap] at this
    obtain ⟨q, hq, e⟩ := List.mem_map.mp this
    exact ⟨q, hq, e.symm⟩
  refine ⟨fun j s hj => ?_, S.ln, fun p hp => ?_, S.al.upd, fun b u hb => ?_, fun p hp => ?_, ?_⟩
  · rw [e, e2]; exact S.sl j s hj
  · rw [e, e2]
    obtain ⟨j, hj⟩ := List.mem_iff_getElem?.mp hp
    by_cases hji : j = i
    · subst hji
      rw [List.getElem?_set_self hi] at hj
      cases hj
      exact ho
    · rw [List.getElem?_set_ne (Ne.symm hji)] at hj
      refine (S.ob p (List.mem_of_getElem? hj)).mono (Ex.refl _) (upd_ne ?_)
      exact S.apart h (b := p.1) (n := p.2) hj (Ne.symm hji)
  · rw [upd_ne fun z => ?_]
    · exact S.bs b u hb
    · rw [z, S.nb _ (List.mem_of_getElem? h)] at hb; cases hb
  · obtain ⟨q, hq, z⟩ := mem p hp
    rw [z]; exact S.nb q hq
  · rw [hmap]
    refine ⟨S.dj.1, fun p hp => ?_⟩
    obtain ⟨q, hq, z⟩ := mem p hp
    rw [z]; exact S.dj.2 q hq
/-- a new one -/
theorem Sy.newN (S : Sy K B M0 ρ μ σ H1) {a : Addr} (m : Mo) (x : Ex H1 H2) (hn : H1 a = none) (ho : m.holds K (hid (a :: adr M0 μ) H2) H2 a) : Sy K B M0 ρ ((a, m) :: μ) σ H2 := by
  have hM : a ∉ adr M0 μ := S.all.out hn
  have up : Ex (hid (adr M0 μ) H1) (hid (a :: adr M0 μ) H2) := fun b o h => by
    by_cases hb : b ∈ adr M0 μ
    · rw [hid_in hb] at h; cases h
    · rw [hid_out hb] at h
      rw [hid_out fun z => ?_]
      · exact x _ _ h
      · rcases List.mem_cons.mp z with z | z
        · rw [z, hn] at h; cases h
        · exact hb z
  refine ⟨fun j s hj => let ⟨v, h1, h2⟩ := S.sl j s hj; ⟨v, h1, h2.ex up⟩, S.ln, fun p hp => ?_, S.al.ex x, S.bs.trans x, fun p hp => ?_, ?_⟩
  · rcases List.mem_cons.mp hp with rfl | hp
    · exact ho
    · obtain ⟨o, q⟩ := (S.ob p hp).some
      exact (S.ob p hp).mono up ((x _ _ q).trans q.symm)
  · rcases List.mem_cons.mp hp with rfl | hp
    · cases q : B a with
      | none => rfl
      | some o => exact absurd ((S.bs _ _ q).symm.trans hn) (by simp)
    · exact S.nb p hp
  · refine ⟨List.nodup_cons.mpr ⟨fun z => hM (List.mem_append_left _ z), S.dj.1⟩, fun p hp => ?_⟩
    rcases List.mem_cons.mp hp with rfl | hp
    · exact fun z => hM (List.mem_append_right _ z)
    · exact S.dj.2 p hp
/-- told in another sequence -/
theorem Sy.perm {μ' : Mu} (S : Sy K B M0 ρ μ σ H) (p : μ'.Perm μ) : Sy K B M0 ρ μ' σ H := by
  have e : hid (adr M0 μ') H = hid (adr M0 μ) H := by
    have : ∀ a, a ∈ adr M0 μ' ↔ a ∈ adr M0 μ := fun a => by
      unfold adr
      rw [List.mem_append, List.mem_append, (p.map (·.1)).mem_iff]
    funext a
    unfold hid
    by_cases h : a ∈ adr M0 μ
    · rw [if_pos h, if_pos ((this a).mpr h)]
    · rw [if_neg h, if_neg fun z => h ((this a).mp z)]
  exact ⟨by rw [e]; exact S.sl, S.ln, fun q hq => by rw [e]; exact S.ob q (p.mem_iff.mp hq), S.al, S.bs, fun q hq => S.nb q (p.mem_iff.mp hq), (p.map (·.1)).nodup_iff.mpr S.dj.1, fun q hq => S.dj.2 q (p.mem_iff.mp hq)⟩
/-- one is not ours any more -/
theorem Sy.drop1 {a : Addr} {m : Mo} (S : Sy K B M0 ρ ((a, m) :: μ) σ H) : Sy K B (M0) ρ μ σ H := by
  have sub : ∀ b ∈ adr M0 μ, b ∈ adr M0 ((a, m) :: μ) := fun b hb => List.mem_cons_of_mem _ hb
  exact ⟨fun i s h => let ⟨v, x, y⟩ := S.sl i s h; ⟨v, x, y.ex (hid_sub sub)⟩, S.ln, fun p hp => (S.ob p (List.mem_cons_of_mem _ hp)).mono (hid_sub sub) rfl, S.al, S.bs, fun p hp => S.nb p (List.mem_cons_of_mem _ hp), (List.nodup_cons.mp S.dj.1).2, fun p hp => S.dj.2 p (List.mem_cons_of_mem _ hp)⟩

/-! ### data in which no list stands, when a list is hidden -/
mutual
def noL : D → Bool
  | .list _ => false
  | .tuple ds => noLs ds
  | .dict _ => false
  | _ => true
def noLs : List D → Bool
  | [] => true
  | d :: ds => noL d && noLs ds
end
theorem sqT_hid {G : Hp} {M M' : List Addr} {a t : Addr} {xs vs : List V} (ha : H a = some (.lst vs)) (hM : ∀ b ∈ M, b = a ∨ b ∈ M') (h : SqT K (hid M' H) t xs) : SqT K (hid M H) t xs := by
  rcases h with (h | ⟨o, h⟩) | h
  · refine .inl (.inl ?_)
    by_cases ht : t ∈ M'
    · rw [hid_in ht] at h; cases h
    · rw [hid_out ht] at h
      rw [hid_out fun z => ?_]
      · exact h
      · rcases hM t z with z | z
        · rw [z, ha] at h; cases h
        · exact ht z
  · refine .inl (.inr ⟨o, ?_⟩)
    by_cases ht : t ∈ M'
    · rw [hid_in ht] at h; cases h
    · rw [hid_out ht] at h
      rw [hid_out fun z => ?_]
      · exact h
      · rcases hM t z with z | z
        · rw [z, ha] at h; cases h
        · exact ht z
  · exact .inr h
mutual
theorem dp_hid {M M' : List Addr} {a : Addr} {vs : List V} (ha : H a = some (.lst vs)) (hM : ∀ b ∈ M, b = a ∨ b ∈ M') : ∀ (d : D) (v : V), noL d = true → Dp K (hid M' H) v d → Dp K (hid M H) v d
  | .none, _, _, h => by cases h; exact .non
  | .bool b, _, _, h => by cases h; exact .bl b
  | .int i, _, _, h => by cases h; exact .int i
  | .str x, _, _, h => by cases h; exact .str x
  | .list ds, _, n, _ => by simp [noL] at n
  | .tuple ds, _, n, h => by cases h with | tup x y => exact .tup (sqT_hid (G := H) ha hM x) (dp_hidA ha hM ds _ (by simpa [noL] using n) y)
  | .dict _, _, _, h => by cases h
theorem dp_hidA {M M' : List Addr} {a : Addr} {vs : List V} (ha : H a = some (.lst vs)) (hM : ∀ b ∈ M, b = a ∨ b ∈ M') : ∀ (ds : List D) (ws : List V), noLs ds = true → DpAll K (hid M' H) ws ds → DpAll K (hid M H) ws ds
  | [], _, _, h => by cases h; exact .nil
  | d :: ds, _, n, h => by
    have n2 : noL d = true ∧ noLs ds = true := by simpa [noLs] using n
    cases h with | cons x y => exact .cons (dp_hid ha hM d _ n2.1 x) (dp_hidA ha hM ds _ n2.2 y)
end
/-- one's own list, looked at as a datum -/
theorem Sy.frz (S : Sy K B M0 ρ μ σ H) (n i : Nat) {a : Addr} {ds : List D} (hn : ρ[n]? = some (some (.val (.ref a)))) (hi : μ[i]? = some (a, .lst (ds.map .dat))) : Sy K B M0 (ρ.set n (some (.dat (.list ds)))) (μ.eraseIdx i) σ H := by
  have sub : ∀ b ∈ adr M0 (μ.eraseIdx i), b ∈ adr M0 μ := fun b hb => by
    rcases List.mem_append.mp hb with z | z
    · obtain ⟨p, hp, e⟩ := List.mem_map.mp z
      exact List.mem_append_left _ (List.mem_map.mpr ⟨p, List.mem_of_mem_eraseIdx hp, e⟩)
    · exact List.mem_append_right _ z
  have up := hid_sub (H := H) sub
  have hl : n < ρ.length := (List.getElem?_eq_some_iff.mp hn).1
  have nin : a ∉ adr M0 (μ.eraseIdx i) := fun z => by
    rcases List.mem_append.mp z with z | z
    · obtain ⟨p, hp, e⟩ := List.mem_map.mp z
      obtain ⟨j, hj, hp2⟩ := List.mem_eraseIdx_iff_getElem?.mp hp
      exact S.apart hi (b := p.1) (n := p.2) hp2 (Ne.symm hj) e
    · exact S.dj.2 _ (List.mem_of_getElem? hi) z
  obtain ⟨vs, h1, h2⟩ := S.own hi
  refine ⟨fun j s hj => ?_, by rw [List.length_set]; exact S.ln, fun p hp => (S.ob p (List.mem_of_mem_eraseIdx hp)).mono up rfl, S.al, S.bs, fun p hp => S.nb p (List.mem_of_mem_eraseIdx hp), ?_, fun p hp => S.dj.2 p (List.mem_of_mem_eraseIdx hp)⟩
  · by_cases hjn : j = n
    · subst hjn
      rw [List.getElem?_set_self hl] at hj
      cases hj
      obtain ⟨v, q1, q2⟩ := S.sl _ _ hn
      have q2 : v = .ref a := q2
      refine ⟨v, q1, ?_⟩
      rw [q2]
      have all : ∀ {ds : List D} {vs : List V}, Paired (fun s v => Sv.holds K (hid (adr M0 μ) H) s v) (ds.map .dat) vs → DpAll K (hid (adr M0 (μ.eraseIdx i)) H) vs ds := fun {ds} => by
        induction ds with
        | nil => intro vs h; cases h; exact .nil
        | cons d ds ih => intro vs h; cases h with | cons x y => exact .cons (Dp.ex x up) (ih y)
      exact .lst (SqL.of (by rw [hid_out nin]; exact h1)) (all h2)
    · rw [List.getElem?_set_ne (Ne.symm hjn)] at hj
      obtain ⟨v, q1, q2⟩ := S.sl _ _ hj
      exact ⟨v, q1, q2.ex up⟩
  · refine List.Nodup.sublist ((List.eraseIdx_sublist _ _).map _) S.dj.1
end
section
variable {X : Cx} {B H : Hp} {M0 : List Addr} {ρ : Ro} {μ : Mu} {σ : L2.St} {d : D} {pos : Pos} {e : Expr}
theorem Jd.thaw {a : Addr} {m : Mo} {vs : List V} {i : Nat} (h : Jd X (adr M0 (μ.eraseIdx i)) e σ H d) (hi : μ[i]? = some (a, m)) (ha : H a = some (.lst vs)) (hd : noL d = true) : Jd X (adr M0 μ) e σ H d := fun al H1 x Q q => by
  have hM : ∀ b ∈ adr M0 μ, b = a ∨ b ∈ adr M0 (μ.eraseIdx i) := fun b hb => by
    rcases List.mem_append.mp hb with z | z
    · obtain ⟨p, hp, e⟩ := List.mem_map.mp z
      obtain ⟨j, hj⟩ := List.mem_iff_getElem?.mp hp
      by_cases hji : j = i
      · subst hji
        rw [hi] at hj
        cases hj
        exact .inl e.symm
      · exact .inr (List.mem_append_left _ (List.mem_map.mpr ⟨p, List.mem_eraseIdx_iff_getElem?.mpr ⟨j, hji, hj⟩, e⟩))
    · exact .inr (List.mem_append_right _ z)
  have sub : ∀ b ∈ adr M0 (μ.eraseIdx i), b ∈ adr M0 μ := fun b hb => by
    rcases List.mem_append.mp hb with z | z
    · obtain ⟨p, hp, e⟩ := List.mem_map.mp z
      exact List.mem_append_left _ (List.mem_map.mpr ⟨p, List.mem_of_mem_eraseIdx hp, e⟩)
    · exact List.mem_append_right _ z
  exact h (fun b hb => al b (sub b hb)) H1 x Q fun v H2 y p => q v H2 y (dp_hid (y _ _ (x _ _ ha)) hM d v hd p)
theorem Jt.thaw {i : Nat} {b : Bool} (h : Jt X (adr M0 (μ.eraseIdx i)) e σ H b) : Jt X (adr M0 μ) e σ H b := fun al H1 x Q q => by
  have sub : ∀ b ∈ adr M0 (μ.eraseIdx i), b ∈ adr M0 μ := fun b hb => by
    rcases List.mem_append.mp hb with z | z
    · obtain ⟨p, hp, e⟩ := List.mem_map.mp z
      exact List.mem_append_left _ (List.mem_map.mpr ⟨p, List.mem_of_mem_eraseIdx hp, e⟩)
    · exact List.mem_append_right _ z
  exact h (fun b hb => al b (sub b hb)) H1 x Q q
end
end J

set_option maxHeartbeats 4000000
/-! J7: values that need not be data; frames; promises of defs that change objects. -/
namespace J
open PySem PySem.Spec PyProof.Rows L2 Evl RZ
def Js (X : Cx) (M : List Addr) (e : Expr) (σ : L2.St) (H : Hp) (s : Sv) : Prop := Al M H → ∀ H1, Ex H H1 → ∀ Q : VK, (∀ v H2, Ex H1 H2 → s.holds X.K (hid M H2) v → Q v H2) → tW X e σ H1 Q
def Jsa (X : Cx) (M : List Addr) (es : List Expr) (σ : L2.St) (H : Hp) (ss : List Sv) : Prop := Al M H → ∀ H1, Ex H H1 → ∀ Q : List V → Hp → Prop, (∀ vs H2, Ex H1 H2 → Paired (fun s v => Sv.holds X.K (hid M H2) s v) ss vs → Q vs H2) → tA X es σ H1 Q
section
variable {X : Cx} {M : List Addr} {σ : L2.St} {H : Hp} {e a b : Expr} {es : List Expr} {d : D} {v : V} {s : Sv} {ss : List Sv} {pos : Pos}
theorem Jd.js (h : Jd X M e σ H d) : Js X M e σ H (.dat d) := h
theorem Jv.js (h : Jv X e σ H v) : Js X M e σ H (.val v) := fun _ H1 x Q q => h H1 x Q fun H2 y => q v H2 y rfl
theorem jsa_nil : Jsa X M [] σ H [] := fun _ H1 _ Q q => leA pa_nil (q [] H1 (Ex.refl H1) .nil)
theorem jsa_cons (ha : Js X M e σ H s) (hr : Jsa X M es σ H ss) (hs : starEach (e :: es) X.env = (false, eval e X.env) :: starEach es X.env := by rfl) : Jsa X M (e :: es) σ H (s :: ss) := fun al H1 x Q q =>
  leA (pa_cons pe_W pa_A hs) (ha al H1 x _ fun v H2 y p => hr al H2 (x.trans y) _ fun vs H3 z r => q _ H3 (y.trans z) (.cons (p.ex (hid_ex z)) r))
end
section
variable {K : PySem.W.Frag} {B B' H H1 H2 H' : Hp} {M0 : List Addr} {ρ ρ' : Ro} {μ μ1 μ2 μ1' : Mu} {σ σ' : L2.St} {d : D} {v : V}
theorem adr_app : adr (adr M0 μ2) μ1 = adr M0 (μ1 ++ μ2) := by unfold adr; rw [List.map_append, List.append_assoc]
/-- some of the objects, the others stand by -/
theorem Sy.split (S : Sy K B M0 ρ (μ1 ++ μ2) σ H) : Sy K (J.grd μ1 H) (adr M0 μ2) ρ μ1 σ H := by
  have e : adr (adr M0 μ2) μ1 = adr M0 (μ1 ++ μ2) := adr_app
  have nd := S.dj.1
  rw [List.map_append] at nd
  refine ⟨by rw [e]; exact S.sl, S.ln, fun p hp => by rw [e]; exact S.ob p (List.mem_append_left _ hp), fun a ha => S.all a (by rw [← e]; exact List.mem_append_right _ ha), hid_le, fun p hp => hid_in (List.mem_map.mpr ⟨p, hp, rfl⟩), (List.nodup_append.mp nd).1, fun p hp z => ?_⟩
  rcases List.mem_append.mp z with z | z
  · exact (List.nodup_append.mp nd).2.2 _ (List.mem_map.mpr ⟨p, hp, rfl⟩) _ z rfl
  · exact S.dj.2 p (List.mem_append_left _ hp) z
theorem Sy.up2 (S' : Sy K (J.grd μ1 H) (adr M0 μ2) ρ' μ1' σ' H') : Ex (hid (adr M0 (μ1 ++ μ2)) H) (hid (adr M0 (μ1' ++ μ2)) H') := by
  have h := S'.low
  rw [adr_app] at h
  have e : hid (adr M0 μ2) (J.grd μ1 H) = hid (adr M0 (μ1 ++ μ2)) H := by
    unfold J.grd
    rw [hid_app]
    unfold adr
    rw [List.map_append, List.append_assoc]
  rw [e] at h
  exact h
theorem Sy.joinX (S : Sy K B M0 ρ (μ1 ++ μ2) σ H) (S' : Sy K (J.grd μ1 H) (adr M0 μ2) ρ' μ1' σ' H') : Sy K B M0 ρ' (μ1' ++ μ2) σ' H' := by
  have e : adr (adr M0 μ2) μ1' = adr M0 (μ1' ++ μ2) := adr_app
  have up := S'.up2
  have nd := S.dj.1
  rw [List.map_append] at nd
  have gB : Ex B (J.grd μ1 H) := fun a o h => by
    have hn : a ∉ μ1.map (·.1) := fun z => by
      obtain ⟨p, hp, q⟩ := List.mem_map.mp z
      rw [← q, S.nb p (List.mem_append_left _ hp)] at h; cases h
    show hid (μ1.map (·.1)) H a = some o
    rw [hid_out hn]
    exact S.bs a o h
  refine ⟨by rw [← e]; exact S'.sl, S'.ln, fun p hp => ?_, fun a ha => S'.al a (List.mem_append_right _ ha), gB.trans S'.bs, fun p hp => ?_, ?_, fun p hp => ?_⟩
  · rcases List.mem_append.mp hp with hp | hp
    · rw [← e]; exact S'.ob p hp
    · obtain ⟨o, q⟩ := (S.ob p (List.mem_append_right _ hp)).some
      have hn : p.1 ∉ μ1.map (·.1) := fun z => (List.nodup_append.mp nd).2.2 _ z _ (List.mem_map.mpr ⟨p, hp, rfl⟩) rfl
      exact (S.ob p (List.mem_append_right _ hp)).mono up ((S'.bs _ _ (show hid (μ1.map (·.1)) H p.1 = some o by rw [hid_out hn]; exact q)).trans q.symm)
  · rcases List.mem_append.mp hp with hp | hp
    · cases q : B p.1 with
      | none => rfl
      | some o => exact absurd ((gB _ _ q).symm.trans (S'.nb p hp)) (by simp)
    · exact S.nb p (List.mem_append_right _ hp)
  · rw [List.map_append]
    refine List.nodup_append.mpr ⟨S'.dj.1, (List.nodup_append.mp nd).2.1, fun x hx y hy z => ?_⟩
    obtain ⟨p, hp, rfl⟩ := List.mem_map.mp hx
    exact S'.dj.2 p hp (List.mem_append_left _ (z ▸ hy))
  · rcases List.mem_append.mp hp with hp | hp
    · exact fun z => S'.dj.2 p hp (List.mem_append_right _ z)
    · exact S.dj.2 p (List.mem_append_right _ hp)
theorem Sy.keep (S : Sy K B M0 ρ (μ1 ++ μ2) σ H) (S' : Sy K (J.grd μ1 H) (adr M0 μ2) ρ' μ1' σ' H') : Sy K B M0 ρ (μ1' ++ μ2) σ H' := by
  have J := S.joinX S'
  exact ⟨fun i s h => let ⟨v, x, y⟩ := S.sl i s h; ⟨v, x, y.ex S'.up2⟩, S.ln, J.ob, J.al, J.bs, J.nb, J.dj⟩
/-- other slots over the same objects -/
theorem Sy.reslot (S : Sy K B M0 ρ μ σ H) (hl : ρ'.length = σ'.length) (h : ∀ (i : Nat) (s : Sv), ρ'[i]? = some (some s) → ∃ v, σ'[i]? = some (some v) ∧ s.holds K (hid (adr M0 μ) H) v) : Sy K B M0 ρ' μ σ' H :=
  ⟨h, hl, S.ob, S.al, S.bs, S.nb, S.dj⟩
theorem Sy.args {ss : List Sv} {vs : List V} (S : Sy K B M0 ρ μ σ H) (p : Paired (fun s v => Sv.holds K (hid (adr M0 μ) H) s v) ss vs) : Sy K B M0 (ss.map some) μ (vs.map some) H :=
  S.reslot (by rw [List.length_map, List.length_map, paired_len p]) fun i s h => by
    rw [List.getElem?_map] at h
    obtain ⟨t, h1, h2⟩ := Option.map_eq_some_iff.mp h
    cases h2
    obtain ⟨v, h3, h4⟩ := paired_get p h1
    exact ⟨v, by rw [List.getElem?_map, h3]; rfl, h4⟩
theorem Sy.one {s : Sv} (S : Sy K B M0 ρ μ σ H) (p : s.holds K (hid (adr M0 μ) H) v) : Sy K B M0 [some s] μ [some v] H := Sy.args (ss := [s]) (vs := [v]) S (.cons p .nil)
theorem Sy.the {s : Sv} (S : Sy K B M0 [some s] μ [some v] H) : s.holds K (hid (adr M0 μ) H) v := by
  obtain ⟨w, h1, h2⟩ := S.sl 0 s rfl
  cases h1
  exact h2
end

/-! ### promises -/
/-- objects may change: Pre, what is asked; R, what comes of it; Fl, which exceptions may come out -/
def spM (K : PySem.W.Frag) (n : Nat) (Pre : List Sv → Mu → Prop) (R : List Sv → Mu → Sv → Mu → Prop) (Fl : List Sv → Mu → Value → Prop) : Sp := fun vs H Q E => ∃ (B : Hp) (M0 : List Addr) (ss : List Sv) (μ : Mu), ss.length = n ∧ Pre ss μ ∧ Sy K B M0 (ss.map some) μ (vs.map some) H ∧
  (∀ v s μ' H', R ss μ s μ' → Sy K B M0 [some s] μ' [some v] H' → Q v H') ∧ ∀ cls H', Fl ss μ cls → Ex B H' → E cls none H'
def noF : List Sv → Mu → Value → Prop := fun _ _ _ => False
section
variable {P : Program} {w : World} {K : PySem.W.Frag} {mg : Str → Option Value} {base : Heap} {x : Str} {st : Stmt} {f : Addr} {fd : FuncData} {N ps : List Str} {k n : Nat} {Pre : List Sv → Mu → Prop} {R : List Sv → Mu → Sv → Mu → Prop} {Fl : List Sv → Mu → Value → Prop}
theorem pad {B H : Hp} {M0 : List Addr} {μ : Mu} {ss : List Sv} {vs : List V} (S : Sy K B M0 (ss.map some) μ (vs.map some) H) : Sy K B M0 (ss.map some ++ List.replicate (N.length - ss.length) none) μ (L2.start N vs) H := by
  have hl : ss.length = vs.length := by have := S.ln; simpa using this
  refine S.reslot (by unfold L2.start; simp [hl]) fun i s h => ?_
  by_cases hi : i < ss.length
  · rw [List.getElem?_append_left (by simpa using hi)] at h
    obtain ⟨v, h1, h2⟩ := S.sl i s h
    refine ⟨v, ?_, h2⟩
    unfold L2.start
    rw [List.getElem?_append_left (by simpa using (by omega : i < vs.length)), h1]
  · rw [List.getElem?_append_right (by simpa using hi), List.getElem?_replicate] at h
    split at h <;> cases h
theorem ok_M {q : Str} (F : FunD K x q (defArgs st) (defBody st) (defScope st) [] [] f fd) (S : FnScope N ps (defScope st)) (hn : ps.length = n)
    (body : ∀ (cdv : Value) (A : Around) (outer : List Env) (s : Shared) (H : Hp) (E : XK) (B : Hp) (M0 : List Addr) (vs : List V) (ss : List Sv) (μ : Mu) (D' : Ends), Room k (bodyX P w K mg base N q st f cdv A outer s H E).A → ss.length = n → Pre ss μ →
      Sy K B M0 (ss.map some ++ List.replicate (N.length - ss.length) none) μ (L2.start N vs) H → (∀ v s μ' H', R ss μ s μ' → Sy K B M0 [some s] μ' [some v] H' → D'.rt v H') → (∀ μ' σ' ρ' H', R ss μ (.dat .none) μ' → Sy K B M0 ρ' μ' σ' H' → D'.nx σ' H') →
      tB (bodyX P w K mg base N q st f cdv A outer s H E) (defBody st) D' (L2.start N vs) H) : FnOk P w K mg base CX0 (k + 1) f fd ps (spM K n Pre R Fl) := by
  refine F.ok S (fun vs H Q E h => ?_) (fun cdv A outer s H vs Q E hr h => ?_)
  · obtain ⟨B, M0, ss, μ, h1, _, h3, _⟩ := h
    have := h3.ln
    rw [List.length_map, List.length_map] at this
    omega
  · obtain ⟨B, M0, ss, μ, h1, h2, h3, h4, _⟩ := h
    exact ⟨_, PSs.nox pss_B, body cdv A outer s H E B M0 vs ss μ _ hr h1 h2 (pad h3) h4 fun μ' σ' ρ' H' hR S' => h4 .non _ _ H' hR (S'.one .non)⟩
theorem ok_MX {q : Str} (F : FunD K x q (defArgs st) (defBody st) (defScope st) [] [] f fd) (S : FnScope N ps (defScope st)) (hn : ps.length = n)
    (body : ∀ (cdv : Value) (A : Around) (outer : List Env) (s : Shared) (H : Hp) (E : XK) (B : Hp) (M0 : List Addr) (vs : List V) (ss : List Sv) (μ : Mu) (D' : Ends), Room k (bodyE P w K mg base N q st f cdv A outer s H E).A → ss.length = n → Pre ss μ →
      Sy K B M0 (ss.map some ++ List.replicate (N.length - ss.length) none) μ (L2.start N vs) H → (∀ v s μ' H', R ss μ s μ' → Sy K B M0 [some s] μ' [some v] H' → D'.rt v H') → (∀ μ' σ' ρ' H', R ss μ (.dat .none) μ' → Sy K B M0 ρ' μ' σ' H' → D'.nx σ' H') → (∀ cls H', Fl ss μ cls → Ex B H' → E cls none H') →
      tB (bodyE P w K mg base N q st f cdv A outer s H E) (defBody st) D' (L2.start N vs) H) : FnOk P w K mg base (CX P w) (k + 1) f fd ps (spM K n Pre R Fl) := by
  refine F.ok S (fun vs H Q E h => ?_) (fun cdv A outer s H vs Q E hr h => ?_)
  · obtain ⟨B, M0, ss, μ, h1, _, h3, _⟩ := h
    have := h3.ln
    rw [List.length_map, List.length_map] at this
    omega
  · obtain ⟨B, M0, ss, μ, h1, h2, h3, h4, h5⟩ := h
    exact ⟨_, pss_B, body cdv A outer s H E B M0 vs ss μ _ hr h1 h2 (pad h3) h4 (fun μ' σ' ρ' H' hR S' => h4 .non _ _ H' hR (S'.one .non)) h5⟩
end
section
variable {X : Cx} {B H : Hp} {M0 : List Addr} {ρ : Ro} {μ μ1 μ2 : Mu} {σ : L2.St} {d : D} {pos p : Pos} {e : Expr} {es : List Expr} {k n : Nat} {x : Str} {ps : List Str} {Pre : List Sv → Mu → Prop} {R : List Sv → Mu → Sv → Mu → Prop} {Fl : List Sv → Mu → Value → Prop} {ss : List Sv} {vs : List V}
/-- a callee's promise, of some of the objects -/
theorem callM (S : Sy X.K B M0 ρ (μ1 ++ μ2) σ H) (hv : Paired (fun s v => Sv.holds X.K (hid (adr M0 (μ1 ++ μ2)) H) s v) ss vs) (hn : ss.length = n) (hp : Pre ss μ1) {Q : VK} {E : XK}
    (k : ∀ v s μ1' H', R ss μ1 s μ1' → Sy X.K B M0 ρ (μ1' ++ μ2) σ H' → s.holds X.K (hid (adr M0 (μ1' ++ μ2)) H') v → Q v H') (kE : ∀ cls H', Fl ss μ1 cls → Ex (J.grd μ1 H) H' → E cls none H') : spM X.K n Pre R Fl vs H Q E := by
  refine ⟨J.grd μ1 H, adr M0 μ2, ss, μ1, hn, hp, ?_, fun v s μ' H' hR S' => ?_, fun cls H' hF x => kE cls H' hF x⟩
  · have := S.args hv
    exact this.split
  · have h := S'.the
    rw [adr_app] at h
    exact k v s μ' H' hR (S.keep S') h
theorem jm_callE {Q : VK} (F : Fd CX0 X.prog X.w X.K X.mg X.base k x ps (spM X.K n Pre R Fl)) (hr : Room k X.A) (ha : tA X (e :: es) σ H fun vs H2 => spM X.K n Pre R Fl vs H2 Q E0) (hg : Gl X x := by rfl) (hdb : (x == ("__debug__" : Str)) = false := by decide)
    (he : starEach (e :: es) X.env = (false, eval e X.env) :: starEach es X.env := by rfl) (hpl : (backTo pos (starEach es X.env)).any (·.1) = false := by rfl) : tW X (.Call (.Name x p) (e :: es) [] pos) σ H Q := by
  obtain ⟨f, fd, hm, hk, hb, ok⟩ := F.ex
  refine leW (pe_call (E := E0) ok hr hg hm hk hb .nil pass0 pa_A hdb he hpl) ?_
  have e : (fun vs H2 => spM X.K n Pre R Fl vs H2 Q E0) = fun vs H1 => spM X.K n Pre R Fl (vs ++ []) H1 Q E0 := by funext vs H2; rw [List.append_nil]
  rw [e] at ha
  exact ha
theorem jm_call {Q : VK} (S : Sy X.K B M0 ρ (μ1 ++ μ2) σ H) (F : Fd CX0 X.prog X.w X.K X.mg X.base k x ps (spM X.K n Pre R noF)) (hr : Room k X.A) (ha : Jsa X (adr M0 (μ1 ++ μ2)) (e :: es) σ H ss) (hn : ss.length = n) (hp : Pre ss μ1)
    (kk : ∀ v s μ1' H', R ss μ1 s μ1' → Sy X.K B M0 ρ (μ1' ++ μ2) σ H' → s.holds X.K (hid (adr M0 (μ1' ++ μ2)) H') v → Q v H') (hg : Gl X x := by rfl) (hdb : (x == ("__debug__" : Str)) = false := by decide)
    (he : starEach (e :: es) X.env = (false, eval e X.env) :: starEach es X.env := by rfl) (hpl : (backTo pos (starEach es X.env)).any (·.1) = false := by rfl) : tW X (.Call (.Name x p) (e :: es) [] pos) σ H Q :=
  jm_callE F hr (ha S.all H (Ex.refl H) _ fun vs H2 x2 pv => callM (S.ex x2) pv hn hp kk fun _ _ h => h.elim) hg hdb he hpl
end
end J

set_option maxHeartbeats 4000000
/-! J8: what is done with objects that change. -/
namespace J
open PySem PySem.Spec PyProof.Rows L2 Evl RZ
theorem tW_mono {X : Cx} {e : Expr} {σ : L2.St} {H : Hp} {Q Q' : VK} (h : tW X e σ H Q) (m : ∀ v H', Q v H' → Q' v H') : tW X e σ H Q' := fun pins s I => thn (h pins s I) fun _ _ ⟨v, H', I', r, q⟩ => ⟨v, H', I', r, m v H' q⟩
theorem tA_mono {X : Cx} {es : List Expr} {σ : L2.St} {H : Hp} {Q Q' : List V → Hp → Prop} (h : tA X es σ H Q) (m : ∀ v H', Q v H' → Q' v H') : tA X es σ H Q' := fun pos pins s I => thn (h pos pins s I) fun _ _ ⟨v, H', I', r, q⟩ => ⟨v, H', I', r, m v H' q⟩
/-! ### lookups -/
def lkS {κ : Type} [DecidableEq κ] (kvs : List (κ × Sv)) (k : κ) : Option Sv := (kvs.find? fun kv => decide (kv.1 = k)).map (·.2)
def putS {κ : Type} [DecidableEq κ] (kvs : List (κ × Sv)) (k : κ) (s : Sv) : List (κ × Sv) :=
  if (kvs.any fun kv => decide (kv.1 = k)) = true then kvs.map (fun kv => if kv.1 = k then (kv.1, s) else kv) else kvs ++ [(k, s)]
def putFS (f : Str) (s : Sv) : List (Str × Sv) → List (Str × Sv)
  | [] => [(f, s)]
  | (g, x) :: r => if g = f then (g, s) :: r else (g, x) :: putFS f s r
section
variable {K : PySem.W.Frag} {G : Hp}
abbrev PrK {κ : Type} (K : PySem.W.Frag) (G : Hp) : κ × Sv → κ × V → Prop := fun p q => p.1 = q.1 ∧ p.2.holds K G q.2
theorem prk_find {κ : Type} [DecidableEq κ] {k : κ} {s : Sv} : ∀ {kvs : List (κ × Sv)} {vs : List (κ × V)}, Paired (PrK K G) kvs vs → lkS kvs k = some s → ∃ v, (vs.find? fun kv => decide (kv.1 = k)).map (·.2) = some v ∧ s.holds K G v
  | _, _, .nil, h => by simp [lkS] at h
  | (g, x) :: r, (g2, y) :: r2, .cons a t, h => by
    obtain ⟨e, hx⟩ := a
    have e : g = g2 := e
    subst e
    by_cases hg : g = k
    · simp only [lkS, List.find?_cons, hg, decide_true, Option.map_some, Option.some.injEq] at h
      refine ⟨y, by simp [List.find?_cons, hg], ?_⟩
      rw [← h]; exact hx
    · obtain ⟨v, h1, h2⟩ := prk_find (k := k) (s := s) t (by simpa [lkS, List.find?_cons, hg] using h)
      exact ⟨v, by simpa [List.find?_cons, hg] using h1, h2⟩
theorem prk_look {s : Sv} {f : Str} : ∀ {kvs : List (Str × Sv)} {vs : List (Str × V)}, Paired (PrK K G) kvs vs → kvs.lookup f = some s → ∃ v, vs.lookup f = some v ∧ s.holds K G v
  | _, _, .nil, h => by simp at h
  | (g, x) :: r, (g2, y) :: r2, .cons a t, h => by
    obtain ⟨e, hx⟩ := a
    have e : g = g2 := e
    subst e
    cases hg : (f == g) with
    | true =>
      simp only [List.lookup, hg, Option.some.injEq] at h
      refine ⟨y, by simp [List.lookup, hg], ?_⟩
      rw [← h]; exact hx
    | false =>
      obtain ⟨v, h1, h2⟩ := prk_look (f := f) (s := s) t (by simpa [List.lookup, hg] using h)
      exact ⟨v, by simpa [List.lookup, hg] using h1, h2⟩
theorem prk_any {κ : Type} [DecidableEq κ] {k : κ} : ∀ {kvs : List (κ × Sv)} {vs : List (κ × V)}, Paired (PrK K G) kvs vs → (kvs.any fun kv => decide (kv.1 = k)) = vs.any fun kv => decide (kv.1 = k)
  | _, _, .nil => rfl
  | (g, x) :: r, (g2, y) :: r2, .cons a t => by
    have e : g = g2 := a.1
    subst e
    rw [List.any_cons, List.any_cons, prk_any t]
theorem prk_map {κ : Type} [DecidableEq κ] {k : κ} {s : Sv} {v : V} (h : s.holds K G v) : ∀ {kvs : List (κ × Sv)} {vs : List (κ × V)}, Paired (PrK K G) kvs vs → Paired (PrK K G) (kvs.map (fun kv => if kv.1 = k then (kv.1, s) else kv)) (vs.map (fun kv => if kv.1 = k then (kv.1, v) else kv))
  | _, _, .nil => .nil
  | (g, x) :: r, (g2, y) :: r2, .cons a t => by
    have e : g = g2 := a.1
    subst e
    refine .cons ?_ (prk_map h t)
    by_cases hg : g = k
    · show PrK K G (if g = k then (g, s) else (g, x)) (if g = k then (g, v) else (g, y))
      rw [if_pos hg, if_pos hg]; exact ⟨rfl, h⟩
    · show PrK K G (if g = k then (g, s) else (g, x)) (if g = k then (g, v) else (g, y))
      rw [if_neg hg, if_neg hg]; exact a
theorem prk_put {κ : Type} [DecidableEq κ] {k : κ} {s : Sv} {v : V} (h : s.holds K G v) {kvs : List (κ × Sv)} {vs : List (κ × V)} (p : Paired (PrK K G) kvs vs) : Paired (PrK K G) (putS kvs k s) (putK vs k v) := by
  unfold putS putK
  rw [prk_any p]
  split
  · exact prk_map h p
  · exact paired_app p (.cons ⟨rfl, h⟩ .nil)
theorem prk_putF {f : Str} {s : Sv} {v : V} (h : s.holds K G v) : ∀ {kvs : List (Str × Sv)} {vs : List (Str × V)}, Paired (PrK K G) kvs vs → Paired (PrK K G) (putFS f s kvs) (putF f v vs)
  | _, _, .nil => .cons ⟨rfl, h⟩ .nil
  | (g, x) :: r, (g2, y) :: r2, .cons a t => by
    have e : g = g2 := a.1
    subst e
    show Paired (PrK K G) (if g = f then (g, s) :: r else (g, x) :: putFS f s r) (if g = f then (g, v) :: r2 else (g, y) :: putF f v r2)
    by_cases hg : g = f
    · rw [if_pos hg, if_pos hg]; exact .cons ⟨rfl, h⟩ t
    · rw [if_neg hg, if_neg hg]; exact .cons a (prk_putF h t)
theorem paired_snoc {α β : Type} {F : α → β → Prop} : ∀ {xs : List α} {x : α} {vs : List β}, Paired F (xs ++ [x]) vs → ∃ ws w, vs = ws ++ [w] ∧ Paired F xs ws ∧ F x w
  | [], x, _, .cons a .nil => ⟨[], _, rfl, .nil, a⟩
  | y :: ys, x, _, .cons a t => by
    obtain ⟨ws, w, e, p, q⟩ := paired_snoc t
    exact ⟨_ :: ws, w, by rw [e]; rfl, .cons a p, q⟩
theorem paired_dat : ∀ {ds : List D} {vs : List V}, DpAll K G vs ds → Paired (fun s v => Sv.holds K G s v) (ds.map .dat) vs
  | [], _, h => by cases h; exact .nil
  | d :: ds, _, h => by cases h with | cons a b => exact .cons a (paired_dat b)
end
section
variable {X : Cx} {B H : Hp} {M0 : List Addr} {ρ : Ro} {μ μ' : Mu} {σ : L2.St} {d : D} {v : V} {pos pos' apos p : Pos} {e o b : Expr} {es : List Expr} {s : Sv} {ss : List Sv} {a C dx : Addr} {i : Nat} {fs : List (Str × Sv)} {kvs : List (Key × Sv)} {rest : List Stmt} {D' : Ends} {ds : List D}
theorem Sy.evS (S : Sy X.K B M0 ρ μ σ H) (h : Js X (adr M0 μ) e σ H s) {Q : VK} (k : ∀ v H', Sy X.K B M0 ρ μ σ H' → Ex H H' → s.holds X.K (hid (adr M0 μ) H') v → Q v H') : tW X e σ H Q :=
  h S.all H (Ex.refl H) Q fun v H' x p => k v H' (S.ex x) x p
theorem Sy.evV (S : Sy X.K B M0 ρ μ σ H) (h : Jv X e σ H v) {Q : VK} (k : ∀ H', Sy X.K B M0 ρ μ σ H' → Ex H H' → Q v H') : tW X e σ H Q :=
  h H (Ex.refl H) Q fun H' x => k H' (S.ex x) x
/-- x = e, e any -/
theorem sy_setE (n : Nat) {x : Str} {p' : Pos} (h : tW X e σ H fun v H' => tB X rest D' (σ.set n (some v)) H') (hN : X.N.Nodup) (hi : X.N[n]? = some x := by rfl)
    (hx : Loc X.env.scope x := by first | exact Or.inl rfl | exact Or.inr rfl) (hs : swapsWith e (some (.Name x p')) pos.line X.env = pure false := by rfl) (hf : X.fn x = true ∨ X.env.scope.names.lookup x = some .local := by first | exact .inl rfl | exact .inr rfl) :
    tB X (.Assign [.Name x p'] e pos :: rest) D' σ H := tB_cons (ps_set hN hi hx pe_W hs hf) h
theorem sy_retE (h : tW X e σ H D'.rt) : tB X (.Return (some e) pos :: rest) D' σ H := tB_cons (ps_ret pe_W) h
/-- x = a new list -/
theorem Sy.evN (S : Sy X.K B M0 ρ μ σ H) (h : Jn X (adr M0 μ) e σ H ds) {Q : VK} (k : ∀ a H', Sy X.K B M0 ρ ((a, .lst (ds.map .dat)) :: μ) σ H' → Q (.ref a) H') : tW X e σ H Q :=
  h S.all H (Ex.refl H) Q fun a vs H2 y hn ha p => k a H2 (S.newN (.lst (ds.map .dat)) y hn ⟨vs, ha, paired_dat p⟩)
/-- fields -/
theorem js_fld {f : Str} (S : Sy X.K B M0 ρ μ σ H) (he : Jv X e σ H (.ref a)) (hi : μ[i]? = some (a, .ins C dx fs)) (hf : fs.lookup f = some s) (c : Cls X.K C) (hn : NoAttr X.K C f) (hb : attributeBase e f X.env (eval e X.env) = eval e X.env := by rfl) : Js X (adr M0 μ) (.Attribute e f pos) σ H s := fun al H1 x Q q => by
  obtain ⟨vs, h1, h2⟩ := S.own hi
  obtain ⟨v, h3, h4⟩ := prk_look h2 hf
  exact leW (pe_fld pe_W hb) (he H1 x _ fun H2 y => ⟨a, C, dx, vs, v, rfl, (x.trans y) _ _ h1, c, hn, h3, q v H2 y (h4.ex (hid_ex (x.trans y)))⟩)
theorem sy_fldset {f : Str} (S : Sy X.K B M0 ρ μ σ H) (hv : Js X (adr M0 μ) e σ H s) (ho : Jv X o σ H (.ref a)) (hi : μ[i]? = some (a, .ins C dx fs)) (c : Cls X.K C) (hn : NoAttr X.K C f) (hl : fs.length < 1000) (k : ∀ H', Sy X.K B M0 ρ (μ.set i (a, .ins C dx (putFS f s fs))) σ H' → tB X rest D' σ H')
    (hs : swapsWith e (some (.Attribute o f pos')) pos.line X.env = pure false := by rfl) : tB X (.Assign [.Attribute o f pos'] e pos :: rest) D' σ H :=
  tB_cons (ps_fld pe_W pe_W hs) (S.evS hv fun v H1 S1 x1 p1 => S1.evV (ho.mono x1) fun H2 S2 x2 => by
    obtain ⟨vs, h1, h2⟩ := S2.own hi
    exact ⟨a, C, dx, vs, rfl, h1, c, hn, by rw [← paired_len h2]; exact hl, k _ (S2.upd _ hi ⟨_, upd_same, prk_putF (p1.ex (hid_ex x2)) h2⟩)⟩)
/-- d[x], x a text -/
theorem js_dget {x : Str} {j : Nat} {p2 : Pos} (hu : X.A.units + 1 < cLine) (S : Sy X.K B M0 ρ μ σ H) (he : Jv X e σ H (.ref a)) (hi : μ[i]? = some (a, .dct kvs)) (hf : lkS kvs (.inr x) = some s) (hs : NoSl (.Constant (.str x) j p2) := by intro _ _; rfl) : Js X (adr M0 μ) (.Subscript e (.Constant (.str x) j p2) pos) σ H s := fun al H1 y Q q => by
  obtain ⟨vs, h1, h2⟩ := S.own hi
  obtain ⟨v, h3, h4⟩ := prk_find h2 hf
  exact leW (pe_dget hu pe_W pe_str hs) (he H1 y _ fun H2 z => ⟨a, v, rfl, .inl ⟨vs, .inr x, .inl ((y.trans z) _ _ h1), rfl, h3.symm⟩, q v H2 z (h4.ex (hid_ex (y.trans z)))⟩)
theorem sy_dput {x : Str} {j : Nat} {p2 : Pos} (hu : X.A.units + 1 < cLine) (S : Sy X.K B M0 ρ μ σ H) (hv : Js X (adr M0 μ) e σ H s) (ho : Jv X o σ H (.ref a)) (hi : μ[i]? = some (a, .dct kvs)) (hl : kvs.length < 1000) (k : ∀ H', Sy X.K B M0 ρ (μ.set i (a, .dct (putS kvs (.inr x) s))) σ H' → tB X rest D' σ H')
    (hs : swapsWith e (some (.Subscript o (.Constant (.str x) j p2) pos')) pos.line X.env = pure false := by rfl) : tB X (.Assign [.Subscript o (.Constant (.str x) j p2) pos'] e pos :: rest) D' σ H :=
  tB_cons (ps_dput hu pe_W pe_str pe_W hs) (S.evS hv fun v H1 S1 x1 p1 => S1.evV (ho.mono x1) fun H2 S2 x2 => by
    obtain ⟨vs, h1, h2⟩ := S2.own hi
    exact ⟨a, _, rfl, .inl ⟨vs, .inr x, h1, rfl, by rw [← paired_len h2]; exact sz_lt (by omega), rfl⟩, k _ (S2.upd _ hi ⟨_, upd_same, prk_put (p1.ex (hid_ex x2)) h2⟩)⟩)
/-- .. the value made with effects: what is left is the store -/
theorem sy_dputE {x : Str} {j : Nat} {p2 : Pos} (hu : X.A.units + 1 < cLine) (h : tW X e σ H fun v H1 => ∃ (B : Hp) (M0 : List Addr) (ρ : Ro) (μ : Mu) (s : Sv) (i : Nat) (a : Addr) (kvs : List (Key × Sv)), Sy X.K B M0 ρ μ σ H1 ∧ s.holds X.K (hid (adr M0 μ) H1) v ∧ Jv X o σ H1 (.ref a) ∧ μ[i]? = some (a, .dct kvs) ∧ kvs.length < 1000 ∧
      ∀ H', Sy X.K B M0 ρ (μ.set i (a, .dct (putS kvs (.inr x) s))) σ H' → tB X rest D' σ H')
    (hs : swapsWith e (some (.Subscript o (.Constant (.str x) j p2) pos')) pos.line X.env = pure false := by rfl) : tB X (.Assign [.Subscript o (.Constant (.str x) j p2) pos'] e pos :: rest) D' σ H := by
  refine tB_cons (ps_dput hu pe_W pe_str pe_W hs) (tW_mono h ?_)
  rintro v H1 ⟨B, M0, ρ, μ, s, i, a, kvs, S1, p1, ho, hi, hl, k⟩
  refine S1.evV ho fun H2 S2 x2 => ?_
  obtain ⟨vs, h1, h2⟩ := S2.own hi
  exact ⟨a, _, rfl, .inl ⟨vs, .inr x, h1, rfl, by rw [← paired_len h2]; exact sz_lt (by omega), rfl⟩, k _ (S2.upd _ hi ⟨_, upd_same, prk_put (p1.ex (hid_ex x2)) h2⟩)⟩
/-- lists -/
theorem jm_pop {xs : List Sv} (S : Sy X.K B M0 ρ μ σ H) (ho : Jv X o σ H (.ref a)) (hi : μ[i]? = some (a, .lst (xs ++ [s]))) {Q : VK} (k : ∀ v H', Sy X.K B M0 ρ (μ.set i (a, .lst xs)) σ H' → s.holds X.K (hid (adr M0 (μ.set i (a, .lst xs))) H') v → Q v H')
    (hbase : attributeBase o "pop" X.env (eval o X.env) = eval o X.env := by rfl) (hline : (apos.endLine == pos.line) = true := by rfl) : tW X (.Call (.Attribute o "pop" apos) [] [] pos) σ H Q :=
  leW (pe_bm0 PySem.F.plainAttrs_list PySem.F.slot_list_pop PySem.F.type_list_pop mt_pop pe_W hbase hline) (S.evV ho fun H2 S2 x2 => by
    obtain ⟨vs, h1, h2⟩ := S2.own hi
    obtain ⟨ws, w, rfl, h3, h4⟩ := paired_snoc h2
    refine ⟨.inl ⟨rfl, _, .inl (.inl h1)⟩, a, ws ++ [w], w, rfl, rfl, h1, by simp, ?_⟩
    rw [List.dropLast_concat]
    refine k w _ (S2.upd _ hi ⟨ws, upd_same, h3⟩) ?_
    rw [adr_set hi, hid_upd (Sy.inA hi)]
    exact h4)
theorem jm_pop0 {xs : List Sv} {j : Nat} {p2 : Pos} (S : Sy X.K B M0 ρ μ σ H) (ho : Js X (adr M0 μ) o σ H (.val (.ref a))) (hi : μ[i]? = some (a, .lst (s :: xs))) (hl : xs.length < 1000000) {Q : VK} (k : ∀ v H', Sy X.K B M0 ρ (μ.set i (a, .lst xs)) σ H' → s.holds X.K (hid (adr M0 (μ.set i (a, .lst xs))) H') v → Q v H')
    (hbase : attributeBase o "pop" X.env (eval o X.env) = eval o X.env := by rfl)
    (hfew : ((backTo pos (starEach [.Constant (.int 0) j p2] X.env)).all (fun x => !x.1) && (backToKw pos (keywordEach [] X.env)).all (fun x => x.1.isSome)
      && decide (([.Constant (.int 0) j p2] : List Expr).length + ([] : List Keyword).length + (if ([] : List Keyword).isEmpty then 0 else 1) < 30)) = true := by rfl)
    (hline : (apos.endLine == pos.line) = true := by rfl) (hs : starEach [.Constant (.int 0) j p2] X.env = (false, eval (.Constant (.int 0) j p2) X.env) :: starEach [] X.env := by rfl) (hplain : (backTo pos (starEach [] X.env)).any (·.1) = false := by rfl) : tW X (.Call (.Attribute o "pop" apos) [.Constant (.int 0) j p2] [] pos) σ H Q :=
  leW (pe_bm PySem.F.plainAttrs_list PySem.F.slot_list_pop PySem.F.type_list_pop mt_popAt pe_W (pa_cons pe_int pa_nil hs) hbase hfew hline hs hplain) (S.evS ho fun u H2 S2 x2 pu => by
    have pu : u = .ref a := pu
    subst pu
    obtain ⟨vs, h1, h2⟩ := S2.own hi
    cases h2 with
    | @cons x w ys ws q1 q2 =>
      refine ⟨.inl ⟨rfl, _, .inl (.inl h1)⟩, a, w :: ws, 0, 0, w, rfl, rfl, h1, by decide, by decide, ?_, rfl, ?_⟩
      · have := paired_len q2
        unfold seqIndex?
        simp
      · show Q w (upd H2 a (.lst ((w :: ws).eraseIdx 0)))
        refine k w _ (S2.upd _ hi ⟨ws, upd_same, q2⟩) ?_
        rw [adr_set hi, hid_upd (Sy.inA hi)]
        exact q1)
end
end J

set_option maxHeartbeats 4000000
/-! J9: more of what is done with objects that change: stores, displays, instances, comprehensions with effects. -/
namespace J
open PySem PySem.Spec PyProof.Rows L2 Evl RZ
section
variable {X : Cx} {B H : Hp} {M0 : List Addr} {ρ : Ro} {μ μ' : Mu} {σ : L2.St} {d : D} {v : V} {pos pos' apos p : Pos} {e o b : Expr} {es : List Expr} {s : Sv} {ss : List Sv} {a C dx : Addr} {i : Nat} {fs : List (Str × Sv)} {kvs : List (Key × Sv)} {rest : List Stmt} {D' : Ends} {ds : List D}
/-- xs[n] = e -/
theorem sy_setIx {xs : List Sv} {n : Nat} {z : Int} (S : Sy X.K B M0 ρ μ σ H) (hv : Js X (adr M0 μ) e σ H s) (ho : Jv X o σ H (.ref a)) (hx : Jd X (adr M0 μ) b σ H (.int z)) (hi : μ[i]? = some (a, .lst xs)) (hz : z = (n : Int)) (hn : n < xs.length) (k : ∀ H', Sy X.K B M0 ρ (μ.set i (a, .lst (xs.set n s))) σ H' → tB X rest D' σ H')
    (ha : ∀ v, assign (.Subscript o b pos') X.env v = (do
      let ov ← holding [v] (eval o X.env)
      let iv ← holding [v, ov] (eval b X.env)
      standAt pos'
      holding [v, ov, iv] (setItem ov iv v)
      release [v, ov, iv] []) := by intro _; rfl)
    (hs : swapsWithSole [.Subscript o b pos'] e pos.line X.env = pure false := by rfl) (hw : swappedStores [.Subscript o b pos'] e X.env = pure none := by rfl) (h1 : (assignEach [.Subscript o b pos'] X.env).map (·.2) = [assign (.Subscript o b pos') X.env] := by rfl) : tB X (.Assign [.Subscript o b pos'] e pos :: rest) D' σ H :=
  tB_cons (ps_asg pe_W (pg_sub pe_W pe_W set_list ha) hs hw h1) (S.evS hv fun v H1 S1 x1 p1 => S1.evV (ho.mono x1) fun H2 S2 x2 => S2.ev (hx.mono (x1.trans x2) S.all) fun w H3 S3 x3 p3 => by
    obtain ⟨vs, h1, h2⟩ := S3.own hi
    have hl := paired_len h2
    refine ⟨a, vs, z, n, rfl, dInt p3, h1, ?_, k _ (S3.upd _ hi ⟨_, upd_same, paired_set (p1.ex (hid_ex (x2.trans x3))) h2⟩)⟩
    unfold ixN
    rw [hz, if_pos (Int.natCast_nonneg n), if_pos (by omega)]
    rfl)
/-- [e] as a new list; [e] * n -/
theorem jn_lst {M : List Addr} (h : Ja X M es σ H ds) (hz : ds.length ≤ 100000 := by first | (simp only [List.length_cons, List.length_nil]; omega) | omega | decide) : Jn X M (.List es pos) σ H ds := fun al H1 x Q q =>
  leW (pe_lst pa_A) (h al H1 x _ fun vs H2 y p => ⟨by rw [p.len]; exact sz_of hz, fun a ha => q a vs _ (y.trans (Ex.new ha)) (by
    cases z : H1 a with
    | none => rfl
    | some o => rw [y _ _ z] at ha; cases ha) upd_same (by rw [hid_new ha]; exact p)⟩)
theorem flat1 {α : Type} (n : Nat) (x : α) : (List.replicate n [x]).flatten = List.replicate n x := by
  induction n with
  | zero => rfl
  | succ n ih => rw [List.replicate_succ, List.flatten_cons, ih]; rfl
theorem jn_rep {M : List Addr} {z : Int} {d : D} (h : Ja X M es σ H [d]) (hb : Jd X M b σ H (.int z)) (h0 : 0 ≤ z) (hz : z ≤ 90000) : Jn X M (.BinOp (.List es pos') .Mult b pos) σ H (List.replicate z.toNat d) := fun al H1 x Q q =>
  leW (pe_op op_rep (pe_lst pa_A) pe_W) (h al H1 x _ fun vs H2 y p => by
    obtain ⟨v, rfl⟩ : ∃ v, vs = [v] := by
      have := p.len
      match vs, this with
      | [v], _ => exact ⟨v, rfl⟩
    refine ⟨sz_of (by simp), fun a ha => hb al _ ((x.trans y).trans (Ex.new ha)) _ fun w H3 u r => ?_⟩
    cases p with
    | cons pv pn =>
      obtain rfl := dInt r
      refine ⟨a, z, [v], rfl, rfl, u _ _ upd_same, by omega, by omega, sz_of (by simp; omega), fun c hc => ?_⟩
      rw [flat1]
      have e13 : Ex H2 H3 := (Ex.new ha).trans u
      refine q c _ _ ((y.trans e13).trans (Ex.new hc)) ?_ upd_same ?_
      · cases z' : H1 c with
        | none => rfl
        | some o => rw [e13 _ _ (y _ _ z')] at hc; cases hc
      · rw [hid_new hc]
        have pv3 : Dp X.K (hid M H3) v d := pv.ex (hid_ex e13)
        induction z.toNat with
        | zero => exact .nil
        | succ n ih => rw [List.replicate_succ, List.replicate_succ]; exact .cons pv3 ih)
/-- xs.append(e), xs.extend(a new list), as statements -/
theorem sy_app {xs : List Sv} (S : Sy X.K B M0 ρ μ σ H) (ho : Jv X o σ H (.ref a)) (hv : Js X (adr M0 μ) e σ H s) (hi : μ[i]? = some (a, .lst xs)) (hz : xs.length ≤ 90000) (k : ∀ H', Sy X.K B M0 ρ (μ.set i (a, .lst (xs ++ [s]))) σ H' → tB X rest D' σ H')
    (hsw : swapsWith (.Call (.Attribute o "append" apos) [e] [] pos) none pos'.line X.env = pure false := by rfl)
    (hbase : attributeBase o "append" X.env (eval o X.env) = eval o X.env := by rfl)
    (hfew : ((backTo pos (starEach [e] X.env)).all (fun x => !x.1) && (backToKw pos (keywordEach [] X.env)).all (fun x => x.1.isSome)
      && decide (([e] : List Expr).length + ([] : List Keyword).length + (if ([] : List Keyword).isEmpty then 0 else 1) < 30)) = true := by rfl)
    (hline : (apos.endLine == pos.line) = true := by rfl) (hs : starEach [e] X.env = (false, eval e X.env) :: starEach [] X.env := by rfl) (hplain : (backTo pos (starEach [] X.env)).any (·.1) = false := by rfl) : tB X (.Expr (.Call (.Attribute o "append" apos) [e] [] pos) pos' :: rest) D' σ H :=
  tB_exprX (leW (pe_bm PySem.F.plainAttrs_list PySem.F.slot_list_append PySem.F.type_list_append mt_append pe_W (pa_cons pe_W pa_nil hs) hbase hfew hline hs hplain) (S.evV ho fun H1 S1 x1 => by
    obtain ⟨vs, h1, h2⟩ := S1.own hi
    refine ⟨.inl ⟨rfl, _, .inl (.inl h1)⟩, ?_⟩
    refine hv S.all H1 x1 _ fun v H2 x2 p2 => ?_
    have S2 := S1.ex x2
    obtain ⟨vs, h1, h2⟩ := S2.own hi
    have hl := paired_len h2
    exact ⟨a, vs, v, rfl, rfl, h1, sz_lt (by omega), k _ (S2.upd _ hi ⟨_, upd_same, paired_app h2 (.cons p2 .nil)⟩)⟩)) hsw
theorem sy_ext {xs : List Sv} (S : Sy X.K B M0 ρ μ σ H) (ho : Jv X o σ H (.ref a)) (hv : Jn X (adr M0 μ) e σ H ds) (hi : μ[i]? = some (a, .lst xs)) (hz : xs.length + ds.length ≤ 90000) (k : ∀ H', Sy X.K B M0 ρ (μ.set i (a, .lst (xs ++ ds.map .dat))) σ H' → tB X rest D' σ H')
    (hsw : swapsWith (.Call (.Attribute o "extend" apos) [e] [] pos) none pos'.line X.env = pure false := by rfl)
    (hbase : attributeBase o "extend" X.env (eval o X.env) = eval o X.env := by rfl)
    (hfew : ((backTo pos (starEach [e] X.env)).all (fun x => !x.1) && (backToKw pos (keywordEach [] X.env)).all (fun x => x.1.isSome)
      && decide (([e] : List Expr).length + ([] : List Keyword).length + (if ([] : List Keyword).isEmpty then 0 else 1) < 30)) = true := by rfl)
    (hline : (apos.endLine == pos.line) = true := by rfl) (hs : starEach [e] X.env = (false, eval e X.env) :: starEach [] X.env := by rfl) (hplain : (backTo pos (starEach [] X.env)).any (·.1) = false := by rfl) : tB X (.Expr (.Call (.Attribute o "extend" apos) [e] [] pos) pos' :: rest) D' σ H :=
  tB_exprX (leW (pe_bm PySem.F.plainAttrs_list PySem.F.slot_list_extend PySem.F.type_list_extend mt_extend pe_W (pa_cons pe_W pa_nil hs) hbase hfew hline hs hplain) (S.evV ho fun H1 S1 x1 => by
    obtain ⟨vs, h1, h2⟩ := S1.own hi
    refine ⟨.inl ⟨rfl, _, .inl (.inl h1)⟩, ?_⟩
    refine hv S.all H1 x1 _ fun c ws H2 x2 hn hc pw => ?_
    have S2 := S1.ex x2
    obtain ⟨vs, h1, h2⟩ := S2.own hi
    have hl := paired_len h2
    have hl2 := pw.len
    refine ⟨a, c, vs, ws, rfl, rfl, h1, hc, sz_of (by omega), k _ (S2.upd _ hi ⟨_, upd_same, paired_app h2 (paired_dat (pw.ex (hid_sub fun b hb => List.mem_cons_of_mem _ hb)))⟩)⟩)) hsw
end
theorem prk_lookN {K : PySem.W.Frag} {G : Hp} {f : Str} : ∀ {kvs : List (Str × Sv)} {vs : List (Str × V)}, Paired (PrK K G) kvs vs → kvs.lookup f = none → vs.lookup f = none
  | _, _, .nil, _ => rfl
  | (g, x) :: r, (g2, y) :: r2, .cons a t, h => by
    have e : g = g2 := a.1
    subst e
    cases hg : (f == g) with
    | true => simp [List.lookup, hg] at h
    | false =>
      have := prk_lookN (f := f) t (by simpa [List.lookup, hg] using h)
      simpa [List.lookup, hg] using this
/-! ### dict displays -/
def Jps (X : Cx) (M : List Addr) (trs : List (TE × TE)) (σ : L2.St) (H : Hp) (kvs : List (Key × Sv)) : Prop := Al M H → ∀ H1, Ex H H1 → ∀ Q : List (V × V) → Hp → Prop,
  (∀ vs H2, Ex H1 H2 → Paired (PrK X.K (hid M H2)) kvs vs → Q (vs.map fun kv => (kV kv.1, kv.2)) H2) → tPairs trs σ H1 Q
theorem prk_ex {K : PySem.W.Frag} {G G' : Hp} (e : Ex G G') {kvs : List (Key × Sv)} {vs : List (Key × V)} (h : Paired (PrK K G) kvs vs) : Paired (PrK K G') kvs vs := paired2_ex e h
section
variable {X : Cx} {B H : Hp} {M M0 : List Addr} {ρ : Ro} {μ : Mu} {σ : L2.St} {pos : Pos} {e : Expr} {s : Sv} {kvs : List (Key × Sv)} {trs : List (TE × TE)}
theorem jps_nil : Jps X M [] σ H [] := fun _ H1 _ Q q => q [] H1 (Ex.refl H1) .nil
theorem jps_cons {x : Str} (h : Js X M e σ H s) (r : Jps X M trs σ H kvs) : Jps X M ((tC (.str x), tW X e) :: trs) σ H ((.inr x, s) :: kvs) := fun al H1 y Q q =>
  h al H1 y _ fun v H2 z p => r al H2 (y.trans z) _ fun vs H3 u t => q ((.inr x, v) :: vs) H3 (z.trans u) (.cons ⟨rfl, p.ex (hid_ex u)⟩ t)
end
def mergeS (kvs more : List (Key × Sv)) : List (Key × Sv) := more.foldl (fun acc kv => putS acc kv.1 kv.2) kvs
theorem prk_merge {K : PySem.W.Frag} {G : Hp} : ∀ {more : List (Key × Sv)} {mv : List (Key × V)} {kvs : List (Key × Sv)} {vs : List (Key × V)}, Paired (PrK K G) more mv → Paired (PrK K G) kvs vs → Paired (PrK K G) (mergeS kvs more) (mergeK vs mv)
  | _, _, _, _, .nil, h => h
  | (k, s) :: r, (k2, v) :: r2, _, _, .cons a t, h => by
    have e : k = k2 := a.1
    subst e
    have := prk_merge t (prk_put (k := k) a.2 h)
    exact this
theorem jm_dict {X : Cx} {B H : Hp} {M0 : List Addr} {ρ : Ro} {μ : Mu} {σ : L2.St} {pos : Pos} {kvs : List (Key × Sv)} {trs : List (TE × TE)} {keys : List (Option Expr)} {values : List Expr} (S : Sy X.K B M0 ρ μ σ H) (hp : PPs X pos keys values trs) (h : ∀ p H', Sy X.K B M0 ρ ((p, .dct []) :: μ) σ H' → Jps X (adr M0 ((p, .dct []) :: μ)) trs σ H' kvs) {Q : VK}
    (k : ∀ a H', Sy X.K B M0 ρ ((a, .dct (mergeS [] kvs)) :: μ) σ H' → Q (.ref a) H') (hall : keys.all (·.isSome) = true := by rfl) (hl : keys.length = values.length := by rfl) (h0 : keys ≠ [] := by intro h; cases h) (h15 : keys.length ≤ 15 := by decide) (hkl : kvs.length ≤ 15 := by simp) : tW X (.Dict keys values pos) σ H Q :=
  leW (pe_disp hp hall hl h0 h15) fun p hn => by
    have S1 := S.newN (.dct []) (Ex.new hn) hn ⟨[], upd_same, .nil⟩
    refine h p _ S1 S1.all _ (Ex.refl _) _ fun vs H2 x2 pv => ?_
    have hp2 : H2 p = some (.dK []) := x2 _ _ upd_same
    have S2 := S1.ex x2
    refine ⟨hp2, vs, rfl, by rw [← paired_len pv]; exact hkl, k p _ ?_⟩
    exact S2.upd (i := 0) (.dct (mergeS [] kvs)) (o := .dK (mergeK [] vs)) rfl ⟨_, upd_same, prk_merge pv .nil⟩
/-! ### instances -/
section
variable {X : Cx} {CX : CXT} {B H : Hp} {M0 : List Addr} {ρ : Ro} {μ : Mu} {σ : L2.St} {pos p apos : Pos} {e o : Expr} {es : List Expr} {s : Sv} {ss : List Sv} {C f a dx : Addr} {fd : FuncData} {ps : List Str} {k n : Nat} {x m : Str} {E : XK} {Pre : List Sv → Mu → Prop} {R : List Sv → Mu → Sv → Mu → Prop} {Fl : List Sv → Mu → Value → Prop} {fs : List (Str × Sv)}
theorem make_core (S : Sy X.K B M0 ρ μ σ H) {vs : List V} (pv : Paired (fun s v => Sv.holds X.K (hid (adr M0 μ) H) s v) ss vs) (hn : (ss.length + 1) = n) (hp : ∀ x0 dx, Pre (.val (.ref x0) :: ss) [(x0, .ins C dx [])]) {Q : VK} (hR : ∀ ss' μ' s μ'', R ss' μ' s μ'' → s = .dat .none)
    (kk : ∀ x0 dx μ' H', R (.val (.ref x0) :: ss) [(x0, .ins C dx [])] (.dat .none) μ' → Sy X.K B M0 ρ (μ' ++ μ) σ H' → Q (.ref x0) H') (kE : ∀ x0 dx cls H', Fl (.val (.ref x0) :: ss) [(x0, .ins C dx [])] cls → Ex H H' → E cls none H') (x0 dx : Addr) (h1 : H x0 = none) (h2 : H dx = none) (h3 : dx ≠ x0) :
    spM X.K n Pre R Fl (.ref x0 :: vs) (upd (upd H dx (.own x0)) x0 (.ins C dx [])) (fun v H2 => v = .non ∧ Q (.ref x0) H2) E := by
  have hn1 : upd H dx (.own x0) x0 = none := by rw [upd_ne (Ne.symm h3)]; exact h1
  have x1 : Ex H (upd (upd H dx (.own x0)) x0 (.ins C dx [])) := (Ex.new h2).trans (Ex.new hn1)
  have S1 := S.newN (.ins C dx []) x1 h1 ⟨[], upd_same, .nil⟩
  have hM : x0 ∉ adr M0 μ := S.all.out h1
  have up : Ex (hid (adr M0 μ) H) (hid (adr M0 ((x0, .ins C dx []) :: μ)) (upd (upd H dx (.own x0)) x0 (.ins C dx []))) := fun b o h => by
    by_cases hb : b ∈ adr M0 μ
    · rw [hid_in hb] at h; cases h
    · rw [hid_out hb] at h
      rw [hid_out fun z => ?_]
      · exact x1 _ _ h
      · rcases List.mem_cons.mp (show b ∈ x0 :: adr M0 μ from z) with z | z
        · rw [z, h1] at h; cases h
        · exact hb z
  have pv1 : ∀ {ss : List Sv} {vs : List V}, Paired (fun s v => Sv.holds X.K (hid (adr M0 μ) H) s v) ss vs → Paired (fun s v => Sv.holds X.K (hid (adr M0 ((x0, .ins C dx []) :: μ)) (upd (upd H dx (.own x0)) x0 (.ins C dx []))) s v) ss vs := fun h => paired_ex up h
  refine callM (μ1 := [(x0, .ins C dx [])]) (μ2 := μ) S1 (ss := .val (.ref x0) :: ss) (.cons rfl (pv1 pv)) hn (hp x0 dx) (fun v s μ' H' r S' h => ?_) (fun cls H' hF x => kE x0 dx cls H' hF (fun b o hb => x b o ?_))
  · have e := hR _ _ _ _ r
    subst e
    exact ⟨dNon h, kk x0 dx μ' H' r S'⟩
  · show hid [x0] _ b = some o
    rw [hid_out (by intro z; rw [List.mem_singleton.mp z, h1] at hb; cases hb)]
    exact x1 _ _ hb
theorem jm_make (S : Sy X.K B M0 ρ μ σ H) (M : Mk X.K C f) (F : FnOk X.prog X.w X.K X.mg X.base CX k f fd ps (spM X.K n Pre R Fl)) (hb : Binds X.K fd ps []) (hr : Room (k + 1) X.A) (hm : X.mg x = some (.ref C)) (hx : Passes CX X E)
    (ha : Jsa X (adr M0 μ) (e :: es) σ H ss) (hn : (ss.length + 1) = n) (hp : ∀ x0 dx, Pre (.val (.ref x0) :: ss) [(x0, .ins C dx [])]) {Q : VK} (hR : ∀ ss' μ' s μ'', R ss' μ' s μ'' → s = .dat .none)
    (kk : ∀ x0 dx μ' H', R (.val (.ref x0) :: ss) [(x0, .ins C dx [])] (.dat .none) μ' → Sy X.K B M0 ρ (μ' ++ μ) σ H' → Q (.ref x0) H') (kE : ∀ x0 dx cls H', Fl (.val (.ref x0) :: ss) [(x0, .ins C dx [])] cls → Ex H H' → E cls none H') (hg : Gl X x := by rfl)
    (hdb : (x == ("__debug__" : Str)) = false := by decide) (he : starEach (e :: es) X.env = (false, eval e X.env) :: starEach es X.env := by rfl) (hpl : (backTo pos (starEach es X.env)).any (·.1) = false := by rfl) : tW X (.Call (.Name x p) (e :: es) [] pos) σ H Q :=
  leW (pe_make M F hr hg hm hb .nil hx pa_A hdb he hpl) (ha S.all H (Ex.refl H) _ fun vs H2 x2 pv x0 dx h1 h2 h3 => by
    rw [List.append_nil]
    exact make_core (S.ex x2) pv hn hp hR kk (fun x0 dx cls H' hF x => kE x0 dx cls H' hF (x2.trans x)) x0 dx h1 h2 h3)
/-- a method without arguments -/
theorem jm_meth0 {pl : Sem Bool} {μ1 μ2 : Mu} (S : Sy X.K B M0 ρ (μ1 ++ μ2) σ H) (ho : Jv X o σ H (.ref a)) {i : Nat} (hi : μ1[i]? = some (a, .ins C dx fs)) (hf : fs.lookup m = none) (c : Cls X.K C) (hm : Meth X.K C m f) (F : FnOk X.prog X.w X.K X.mg X.base CX k f fd ps (spM X.K 1 Pre R Fl)) (hb : Binds X.K fd ps []) (hr : Room k X.A) (hx : Passes CX X E)
    (hp : Pre [.val (.ref a)] μ1) {Q : VK} (kk : ∀ v s μ1' H', R [.val (.ref a)] μ1 s μ1' → Sy X.K B M0 ρ (μ1' ++ μ2) σ H' → s.holds X.K (hid (adr M0 (μ1' ++ μ2)) H') v → Q v H') (kE : ∀ cls H', Fl [.val (.ref a)] μ1 cls → Ex B H' → E cls none H')
    (ht : eval (.Call (.Attribute o m apos) [] [] pos) X.env = (do
      let ov ← eval o X.env
      standAt apos.atName
      let (f, first) ← holding [ov] (getMethod ov m pl)
      callWith pos f first (backTo pos (starEach [] X.env)) (backToKw pos (keywordEach [] X.env))) := by rfl) : tW X (.Call (.Attribute o m apos) [] [] pos) σ H Q :=
  leW (pe_meth0 pe_W c hm F hr hb .nil hx ht) (S.evV ho fun H1 S1 x1 => by
    obtain ⟨hil, _⟩ := List.getElem?_eq_some_iff.mp hi
    have hi2 : (μ1 ++ μ2)[i]? = some (a, .ins C dx fs) := by rw [List.getElem?_append_left hil]; exact hi
    obtain ⟨vs, h1, h2⟩ := S1.own hi2
    refine ⟨a, dx, vs, rfl, h1, ?_, ?_⟩
    · exact prk_lookN h2 hf
    · exact callM S1 (ss := [.val (.ref a)]) (.cons rfl .nil) rfl hp kk (fun cls H' hF x => kE cls H' hF (fun b o hb => x b o (by
        have hn : b ∉ μ1.map (·.1) := fun z => by
          obtain ⟨p, hp, q⟩ := List.mem_map.mp z
          rw [← q, S.nb p (List.mem_append_left _ hp)] at hb; cases hb
        show hid (μ1.map (·.1)) H1 b = some o
        rw [hid_out hn]
        exact S1.bs b o hb))))
end
end J

set_option maxHeartbeats 4000000
/-! J10: enumerate of a tuple; a tuple times n. -/
namespace J
open PySem PySem.Spec PyProof.Rows L2 Evl RZ
open Sem (wp)
open AutoSeq1 (wpAny_loadPart')
theorem meets_enumerate_newT (l : Addr) (items : Array Value) (n : Nat) (dct : Option Addr) (sl : Array (Option Value)) :
    Meets (Builtin.«enumerate.__new__» ⟨[.type "enumerate", .ref l], []⟩) (fun _ R s => s.heap.get? l = some { cls := .type "tuple", dict := dct, data := .seq items n, slots := sl } ∧
      R (.ok (.ret (.ref (s.heap.push { cls := .type "tuple_iterator", data := .fields #[.ref l, .int 0 0] }).objs.size)))
        { s with heap := (s.heap.push { cls := .type "tuple_iterator", data := .fields #[.ref l, .int 0 0] }).push { cls := .type "enumerate", data := .fields #[.none, .bool false, .ref s.heap.objs.size, rawInt 0, .none, .none] } }) :=
  .of_wp fun prog w A R s h => by
    obtain ⟨hp, g, d, tk, os⟩ := s; obtain ⟨hl, h⟩ := h
    have hsub := sub_enumerate
    have hL : Heap.IsTuple (Shared.heap ⟨hp, g, d, tk, os⟩) l items := ⟨_, hl, rfl, n, rfl⟩
    wp_walk using wpAny_loadPart' hl
    refine wpAny_stack_any fun st => wpAny_pure ?_
    split
    · rename_i c _ _ _ _ _
      cases (c == Value.type "enumerate")
      · wp_walk using wpAny_loadPart' hl, wpAny_pyIter_tuple hL
        exact ⟨_, rfl, h⟩
      · wp_walk using wpAny_loadPart' hl, wpAny_pyIter_tuple hL
        exact ⟨_, rfl, h⟩
    · wp_walk using wpAny_loadPart' hl, wpAny_pyIter_tuple hL
      exact ⟨_, rfl, h⟩
theorem call_enumerate_tup {prog : Program} {w : World} {A : Around} {E : Value → Shared → Prop} {s : Shared} {l : Addr} {items : Array Value} {Q : Value → Shared → Prop} (hL : s.heap.IsTuple l items)
    (h : ∀ h', IsEnum h' (s.heap.objs.size + 1) s.heap.objs.size 0 .none → h'.IsTupleIter s.heap.objs.size l 0 → h'.objs.size = s.heap.objs.size + 2 →
      (∀ b o, s.heap.get? b = some o → h'.get? b = some o) → Q (.ref (s.heap.objs.size + 1)) { s with heap := h' }) :
    wpAny (model prog w) A (call (.type "enumerate") [.ref l]) Q E s := by
  obtain ⟨⟨c, dct, dt, sl⟩, hl, hc, n, hd⟩ := hL
  replace hc : c = .type "tuple" := hc
  replace hd : dt = .seq items n := hd
  subst hc hd
  refine callType_new F.called_enumerate (by decide) (F.typeCall_enumerate_1 _) (F.newCall_enumerate_1 _) (fun obj => F.args_object_init_2 obj _) F.entry_enumerate_new
    (meets_enumerate_newT l items n dct sl) ⟨hl, ?_⟩
  have hz : (s.heap.push { cls := .type "tuple_iterator", data := .fields #[.ref l, .int 0 0] }).objs.size = s.heap.objs.size + 1 := Heap.size_push ..
  show _ ∧ _
  rw [hz]
  have he : IsEnum ((s.heap.push { cls := .type "tuple_iterator", data := .fields #[.ref l, .int 0 0] }).push
      { cls := .type "enumerate", data := .fields #[.none, .bool false, .ref s.heap.objs.size, rawInt 0, .none, .none] }) (s.heap.objs.size + 1) s.heap.objs.size 0 .none := by
    have := Heap.get?_push_size (s.heap.push { cls := .type "tuple_iterator", data := .fields #[.ref l, .int 0 0] })
      (o := { cls := .type "enumerate", data := .fields #[.none, .bool false, .ref s.heap.objs.size, rawInt 0, .none, .none] }) rfl
    rw [hz] at this; exact this
  refine ⟨⟨_, he, rfl⟩, h _ he ⟨_, Heap.get?_push_of_some _ (Heap.get?_push_size _ rfl), rfl, rfl⟩ (by rw [Heap.size_push, hz]) fun b o x => Heap.get?_push_of_some _ (Heap.get?_push_of_some _ x)⟩
/-- the tuple at a, each item in a new pair -/
def IteT (K : PySem.W.Frag) (a : Addr) : It :=
  ⟨fun i H => ∃ (xs : List V) (x : V), SqT K H a xs ∧ xs[i]? = some x, fun i H v H' => ∃ T x, v = .ref T ∧ H T = none ∧ H' = upd H T (.tup [.int (i : Nat), x]) ∧ ∀ xs, SqT K H a xs → xs[i]? = some x, fun i H => ∃ xs : List V, SqT K H a xs ∧ xs.length = i⟩
theorem isTuple_of {h : Heap} {a : Addr} {its : Array Value} (p : IsTup h a its) : h.IsTuple a its := by
  obtain ⟨⟨cls, dd, data, sl⟩, ho, hc, n, hd⟩ := p
  exact ⟨_, ho, hc, n, hd⟩
theorem turn_enumT {P : Program} {w : World} {K : PySem.W.Frag} {elts : List Expr} {kk : Nat} {tpos : Pos} (a e it : Addr) (hai : a ≠ it) (hea : e ≠ a) :
    Turn P w K (.Tuple elts kk tpos) (IteT K a) [e, it] e (fun i h => (∃ old, IsEnum h e it ((i : Nat) : Int) old) ∧ h.IsTupleIter it a i ∧ e ≠ it) where
  mem := by simp
  obj := fun i h st b hb => by
    obtain ⟨⟨old, he⟩, ⟨o, ho, hc, hd⟩, _⟩ := st
    have e' : b = e ∨ b = it := by simpa using hb
    rcases e' with z | z
    · rw [z]; exact ⟨_, he, fun v q => nomatch q⟩
    · rw [z]; exact ⟨o, ho, fun v q => by rw [hd] at q; cases q⟩
  keep := fun i h h' st k => let ⟨⟨old, he⟩, hi, hne⟩ := st; ⟨⟨old, k e (by simp) _ he⟩, hi.at fun o q => k it (by simp) o q, hne⟩
  item := by
    intro X hP hw hK hc i pins s σ H E I hf st hg
    subst hP hw hK
    obtain ⟨⟨old, he⟩, hit, hne⟩ := st
    obtain ⟨xs, x, hq, hx⟩ := hg
    obtain ⟨its, rv, p, hz⟩ := I.tuple hq
    obtain ⟨u, hu, ru⟩ := rv.get hx
    have hel : e < s.heap.objs.size := Heap.lt_size he
    have hil : it < s.heap.objs.size := by obtain ⟨_, q, _⟩ := hit; exact Heap.lt_size q
    have hlt : i < its.toArray.size := by rw [List.size_toArray]; exact (List.getElem?_eq_some_iff.mp hu).1
    refine wpAny_pyNext_enum_itemD (Draws.tuple (A := X.A.in1) (I.ok.hd hc) it a hai its.toArray) he ⟨hit, isTuple_of p⟩ hlt hne (by simp [hne, hea]) fun y h' tk hy ho hst hT hsz hk => ?_
    obtain rfl : y = u := by
      have hu2 : its.toArray[i]? = some u := by simpa using hu
      rw [hu2] at hy
      exact (Option.some.inj hy).symm
    obtain ⟨hit', _⟩ := hst
    refine ⟨_, rfl, wpAny_letOwnedTupleGo_enum (s := { s with heap := h', toks := tk + 1 }) ho fun h'' he' sb => ?_⟩
    have hT2 : h''.get? s.heap.objs.size = some { cls := .type "tuple", data := .seq #[.int i tk, y] } := (sb.2 _ (Nat.ne_of_gt hel)).trans hT
    have new : ObjOk X.prog X.w (upd H s.heap.objs.size (.tup [.int (i : Nat), x])) h'' s.heap.objs.size (.tup [.int (i : Nat), x]) :=
      ⟨by show 2 ≤ sizeLine; decide, [.int i tk, y], .cons ⟨_, rfl⟩ (.cons ru .nil), ⟨_, hT2, rfl, _, rfl⟩⟩
    have I1 : Inv X pins σ (upd H s.heap.objs.size (.tup [.int (i : Nat), x])) { s with heap := h'', toks := tk + 1 } :=
      I.turnedNew (ch := [e, it]) (fun b ob hb q => (sb.2 b (fun z => hb (by simp [z]))).trans (hk b ob (fun z => hb (by simp [z])) (fun z => hb (by simp [z])) q)) hf (Nat.le_refl _) new
    refine ⟨.ref s.heap.objs.size, _, I1, rfl, ⟨_, x, rfl, I.hok.fresh (Nat.le_refl _), rfl, fun ys hy => by rw [I.tuple_inj hy hq]; exact hx⟩, ⟨⟨y, ?_⟩, hit'.at fun o q => (sb.2 it (Ne.symm hne)).trans q, hne⟩, fun b hb => ?_⟩
    · have e1 : ((i + 1 : Nat) : Int) = (i : Int) + 1 := by omega
      rw [e1]; exact he'
    · have hb' : b < s.heap.objs.size := by
        have e' : b = e ∨ b = it := by simpa using hb
        rcases e' with z | z
        · rw [z]; exact hel
        · rw [z]; exact hil
      rw [upd_ne (Nat.ne_of_lt hb')]
      exact (hf b hb).1
  done := by
    intro X hP hw hK hc i pins s σ H E I hf st hg
    subst hP hw hK
    obtain ⟨⟨old, he⟩, hit, hne⟩ := st
    obtain ⟨xs, hq, hx⟩ := hg
    obtain ⟨its, rv, p, hz⟩ := I.tuple hq
    obtain ⟨f0, f1, f2, f3, f4, f5⟩ := hf it (by simp)
    have hl := rv.length
    have e1 : its.toArray.size = i := by rw [List.size_toArray]; omega
    have hit2 : s.heap.IsTupleIter it a its.toArray.size := by rw [e1]; exact hit
    exact wpAny_pyNext_enum_endD (Draws.tuple (A := X.A.in1) (I.ok.hd hc) it a hai its.toArray) he ⟨hit2, isTuple_of p⟩ fun h' eb => ⟨rfl, I.turned (t' := s.toks) (fun b o hb q => eb b o hb q) f0 f1 f3 f4 f5⟩
  self := fun A i s Q E st h => let ⟨⟨_, he⟩, _⟩ := st; wpAny_pyIter_enum he h
def iEnumT (K : PySem.W.Frag) (ta : TA) : TI := fun σ H R => ta σ H fun vs H1 => ∃ a xs, vs = [.ref a] ∧ SqT K H1 a xs ∧ R (IteT K a) H1
theorem pi_enumT {X : Cx} {e : Expr} {ta : TA} {p pos tpos : Pos} {elts : List Expr} {kk : Nat} (hg : Gl X "enumerate") (hm : X.mg "enumerate" = none) (ha : PA X [e] ta) (hs : starEach [e] X.env = [(false, eval e X.env)] := by rfl) :
    PI X (.Tuple elts kk tpos) (.Call (.Name "enumerate" p) [e] [] pos) (iEnumT X.K ta) := by
  refine ⟨fun pins s σ H R I h => ?_⟩
  refine Call_ (ld_blt I hg hm boot_enumerate (PyProof.Rows.callWith_type1 (thn (ha.run pos pins s σ H _ I h) fun us s1 ⟨vs, H1, I1, r1, q1⟩ => ?_) hs rfl))
  obtain ⟨a, xs, ex, hq, q⟩ := q1
  subst ex
  cases r1 with
  | cons r rr =>
    cases rr
    cases r
    obtain ⟨its, rv, p', hz⟩ := I1.tuple hq
    have hal : a < s1.heap.objs.size := by obtain ⟨o, ho, _⟩ := p'; exact Heap.lt_size ho
    refine call_enumerate_tup (isTuple_of p') fun h' he hit hsz hk => wpAny_pyIter_enum he ?_
    have I2 : Inv X pins σ H1 { s1 with heap := h' } := I1.kept (t' := s1.toks) hk
    refine ⟨s1.heap.objs.size + 1, [s1.heap.objs.size + 1, s1.heap.objs.size], _, _, H1, rfl, I2, turn_enumT a (s1.heap.objs.size + 1) s1.heap.objs.size (Nat.ne_of_lt hal) (Nat.ne_of_gt (Nat.lt_succ_of_lt hal)), ⟨⟨.none, he⟩, hit, Nat.succ_ne_self _⟩, fun b hb => ?_, q⟩
    have e' : b = s1.heap.objs.size + 1 ∨ b = s1.heap.objs.size := by simpa using hb
    have hle : s1.heap.objs.size ≤ b := by
      rcases e' with z | z
      · rw [z]; exact Nat.le_add_right _ _
      · rw [z]; exact Nat.le_refl _
    exact I1.fpOk hle (I1.hok.fresh hle)
theorem walk_enumT {K : PySem.W.Frag} {a : Addr} {xs : List V} : Walk (IteT K a) xs.length (fun H => SqT K H a xs) (YPair (fun i => some (.int (i : Nat))) (fun i => xs[i]?)) := by
  refine ⟨fun i _ hi q => ⟨xs, xs[i], q, by simp [hi]⟩, fun _ q => ⟨xs, q, rfl⟩, fun i H v H' _ q y => ?_⟩
  obtain ⟨T, x, h1, h2, h3, h4⟩ := y
  exact ⟨T, .int (i : Nat), x, h1, h2, h3, rfl, h4 xs q⟩
section
variable {X : Cx} {M : List Addr} {σ : L2.St} {H : Hp} {a b e : Expr} {d d' : D} {ds es : List D} {p pos : Pos} {i j : Int}
theorem jw_enumT {elts : List Expr} {kk : Nat} {tpos : Pos} (hm : X.mg "enumerate" = none) (h : Jd X M a σ H (.tuple ds)) (hg : Gl X "enumerate" := by rfl) (hs : starEach [a] X.env = [(false, eval a X.env)] := by rfl) :
    Jw X M (.Tuple elts kk tpos) (.Call (.Name "enumerate" p) [a] [] pos) σ H (zipD (rgD 0 ds.length) ds) := fun al H1 x R k =>
  leI (pi_enumT hg hm (pa_cons pe_W pa_nil hs) hs) (h al H1 x _ fun v H2 y q => by
    obtain ⟨t, xs, e1, e2, e3⟩ := dTup q
    refine ⟨t, xs, by rw [e1], ex_t hid_le e2, k _ H2 y ⟨_, _, ?_, fun H4 g => ex_t g e2, yl_pair (f := fun i => some (.int (i : Nat))) (fun i d hd => ?_) (fun i d hd => e3.get hd)⟩⟩
    · have e : (zipD (rgD 0 ds.length) ds).length = xs.length := by rw [zipD_len, rgD_len, e3.len]; omega
      rw [e]
      exact walk_enumT
    · obtain ⟨_, e4⟩ := rgD_get hd
      rw [e4, Int.zero_add]
      exact ⟨_, rfl, .int _⟩)
end
/-! ### a tuple times 1 -/
theorem tuple_mul1 (l : Addr) (items : Array Value) (n : Nat) (u : Tok) :
    Meets (Builtin.«tuple.__mul__» ⟨[.ref l, .int 1 u], []⟩) (fun _ R s => ∃ dd sl, s.heap.get? l = some { cls := .type "tuple", dict := dd, data := .seq items n, slots := sl } ∧ R (.ok (.ret (.ref l))) s) :=
  .of_wp fun prog w A R s h => by
    obtain ⟨hp, g, d, tk, os⟩ := s
    obtain ⟨dd, sl, hl, h⟩ := h
    have f1 := AutoSeq1.idx_int
    have c1 : (items.isEmpty || (1 : Int) == 1) = true := by simp
    wp_walk using wpAny_loadPart' hl
    repeat (first
      | (refine wpAny_ite_false (decide_eq_false (by decide)) ?_; wp_walk using wpAny_loadPart' hl)
      | (refine wpAny_ite_true (decide_eq_true c1) ?_; wp_walk using wpAny_loadPart' hl))
    exact ⟨_, rfl, h⟩
def rRep1 (K : PySem.W.Frag) : R2 := fun x y H Q => ∃ l xs, x = .ref l ∧ y = .int 1 ∧ SqT K H l xs ∧ Q (.ref l) H
theorem op_rep1 {X : Cx} : OpR X (binaryOp .Mult) (rRep1 X.K) := by
  intro pins s σ H x y v u Q I rx ry h
  obtain ⟨l, xs, rfl, rfl, hT, q⟩ := h
  cases rx
  obtain ⟨t, rfl⟩ := ry
  obtain ⟨its, r, ⟨⟨cls, dd, data, sl⟩, ho, hc, n, hd⟩, hs⟩ := I.tuple hT
  simp only at hc hd
  subst hc hd
  refine wpAny_binaryOp_repeat_ref (T := "tuple") (U := "int") (by decide) ⟨_, ho, rfl⟩ (fun s' => typeIs_int s' 1 t) noFill_tuple_mul F.fills_int_mul F.slot_int_rmul repeat_tuple F.slot_int_index.lookup
    (call_meets F.slot_int_rmul (typeIs_int s 1 t) F.entry_int_rmul (F.args_int_rmul_2 _ _) (int_rmul_tuple 1 t l its.toArray n dd sl)
      ⟨ho, rfl, ⟨_, ho, rfl⟩, call_meets F.slot_tuple_mul ⟨_, ho, rfl⟩ F.entry_tuple_mul (F.args_tuple_mul_2 _ _) (tuple_mul1 l its.toArray n t) ⟨dd, sl, ho, ?_⟩⟩)
  exact ⟨.ref l, H, I, rfl, q⟩
theorem flatR {α : Type} (n : Nat) (x : α) : (List.replicate n [x]).flatten = List.replicate n x := flat1 n x
theorem dpRep {K : PySem.W.Frag} {G : Hp} {v : V} {d : D} (h : Dp K G v d) : ∀ n : Nat, DpAll K G (List.replicate n v) (List.replicate n d)
  | 0 => .nil
  | n + 1 => by rw [List.replicate_succ, List.replicate_succ]; exact .cons h (dpRep h n)
/-- (d,) * n, n at least 1 -/
theorem jd_repT {X : Cx} {M : List Addr} {σ : L2.St} {H : Hp} {a b : Expr} {d : D} {pos : Pos} {n : Int} (ha : Jd X M a σ H (.tuple [d])) (hb : Jd X M b σ H (.int n)) (h1 : 1 ≤ n) (h2 : n ≤ 1000) : Jd X M (.BinOp a .Mult b pos) σ H (.tuple (List.replicate n.toNat d)) := fun al H1 x Q q => by
  by_cases hn : n = 1
  · subst hn
    exact leW (pe_op op_rep1 pe_W pe_W) (ha al H1 x _ fun v H2 y p => hb al H2 (x.trans y) _ fun w H3 z r => by
      obtain ⟨t, xs, e1, e2, e3⟩ := dTup p
      exact ⟨t, xs, e1, dInt r, ex_t z (ex_t hid_le e2), e1 ▸ q _ H3 (y.trans z) (p.ex (hid_ex z))⟩)
  · exact leW (pe_op op_repT pe_W pe_W) (ha al H1 x _ fun v H2 y p => hb al H2 (x.trans y) _ fun w H3 z r => by
      obtain ⟨t, xs, e1, e2, e3⟩ := dTup p
      obtain ⟨v1, rfl⟩ : ∃ v, xs = [v] := by
        have := e3.len
        match xs, this with
        | [v], _ => exact ⟨v, rfl⟩
      refine ⟨t, n, [v1], e1, dInt r, ex_t z (ex_t hid_le e2), by simp, by omega, h2, by simp, fun c hc => ?_⟩
      rw [flat1]
      refine q _ _ ((y.trans z).trans (Ex.new hc)) (.tup (SqT.of ((al.ex ((x.trans y).trans z)).newEx hc)) ?_)
      cases e3 with
      | cons e3 _ =>
        exact dpRep (e3.ex ((hid_ex z).trans (hid_ex (M := M) (Ex.new (o := .tup (List.replicate n.toNat v1)) hc)))) _)
end J

set_option maxHeartbeats 4000000
/-! J11: comprehensions whose turns change objects. -/
namespace J
open PySem PySem.Spec PyProof.Rows L2 Evl RZ
section
variable {X : Cx} {B H : Hp} {M0 : List Addr} {ρ : Ro} {μ : Mu} {σ : L2.St} {ds : List D} {pos : Pos} {tg iter elt : Expr} {scope : Scope} {own : List (Str × Nat)} {js : List Nat}
/-- [elt for tg in iter]: I tells what was given, and the objects; the new list stands first in the end -/
theorem lcE_core {Jt2 : It} {H2 : Hp} (S2 : Sy X.K B M0 ρ μ σ H2) (yl : Yl X.K (hid (adr M0 μ) H2) Jt2 ds) (f : D → Ro → Ro) (hjs : ∀ j ∈ js, j ∈ own.map (·.2)) (I : Nat → List D → Mu → Prop) (h0 : I 0 [] μ) (hlen : ∀ i acc μ', I i acc μ' → acc.length ≤ 90000)
    (hg : ∀ X' d, Blk X scope X' → d ∈ ds → Jg X' tg js d (wip ρ (own.map (·.2))) (f d (wip ρ (own.map (·.2)))))
    (he : ∀ (i : Nat) (d : D) (acc : List D) (μ' : Mu) X' B' M' σ' H' (Q : VK), ds[i]? = some d → I i acc μ' → Blk X scope X' → Sy X'.K B' M' (f d (wip ρ (own.map (·.2)))) μ' σ' H' →
      (∀ v x μ'' H'', I (i + 1) (acc ++ [x]) μ'' → Sy X'.K B' M' (f d (wip ρ (own.map (·.2)))) μ'' σ' H'' → Dp X'.K (hid (adr M' μ'') H'') v x → Q v H'') → tW X' elt σ' H' Q)
    {Q : VK} (k : ∀ a acc μ' H', I ds.length acc μ' → Sy X.K B M0 ρ ((a, .lst (acc.map .dat)) :: μ') σ H' → Q (.ref a) H') :
    tLc (fun _ _ R => R Jt2 H2) (tGb X scope tg) (tTsb X scope []) (tWb X scope elt) (own.map (·.2)) σ H Q := by
  intro Dl hD
  obtain ⟨G, Y, w, hG, hY⟩ := yl
  let Pv : Nat → Hp → Prop := fun i H' => ∃ acc μ', I i acc μ' ∧ Sy X.K (J.grd μ H2) M0 ρ (μ' ++ [(Dl, .lst (acc.map .dat))]) σ H'
  have low : hid M0 (J.grd μ H2) = hid (adr M0 μ) H2 := grd_low
  have S0 : Sy X.K (J.grd μ H2) M0 ρ (μ ++ [(Dl, .lst ([] : List Sv))]) σ (L2.upd H2 Dl (.lst [])) := (S2.grd.newN (.lst []) (Ex.new hD) hD ⟨[], upd_same, .nil⟩).perm (List.perm_append_comm (l₁ := μ) (l₂ := [_]))
  refine lc_it w Pv ⟨[], μ, h0, S0⟩ (fun i H' hi p => hG H' ?_) (fun i x H' H3 hi p y => ?_) (fun H' p => ?_)
  · obtain ⟨acc, μ', _, S'⟩ := p
    rw [← low]; exact S'.low.trans hid_le
  · obtain ⟨acc, μ', hI, S'⟩ := p
    have g0 : Ex (hid (adr M0 μ) H2) (hid (adr M0 (μ' ++ [(Dl, .lst (acc.map .dat))])) H') := by rw [← low]; exact S'.low
    obtain ⟨x3, dx⟩ := hY i H' x H3 hi (g0.trans hid_le) y
    have hdi : ds[i]? = some ds[i] := List.getElem?_eq_getElem hi
    have q := dx _ S'.all g0 ds[i] hdi
    have S3 := S'.ex x3
    have S3w := (S3.wipe (own.map (·.2))).split
    rw [← adr_app] at q
    intro X' hX
    have eK : X'.K = X.K := by obtain ⟨_, _, _, _, _, rfl⟩ := hX; rfl
    refine hg X' ds[i] hX (List.getElem_mem hi) _ _ _ _ _ _ (by rw [eK]; exact S3w) (by rw [eK]; exact q) _ fun σ4 S4 l4 o4 => ⟨?_, ?_⟩
    · rw [wipe_eq (vs := own.map (·.2)) l4 fun j hj => o4 j fun z => hj (hjs j z)]
      exact wipe_eq (wipe_length _ _) fun j hj => wipe_out hj
    · intro X2 hX2
      have eK2 : X2.K = X'.K := by obtain ⟨_, _, _, _, _, rfl⟩ := hX2; exact eK.symm
      refine jts_nil (M := adr (adr M0 [(Dl, .lst (acc.map .dat))]) μ') S4.all H3 (Ex.refl H3) _ fun H5 x5 => ?_
      have S5 := S4.ex x5
      have S35 := S3.ex x5
      rw [if_pos rfl]
      intro X3 hX3
      have eK3 : X3.K = X2.K := by obtain ⟨_, _, _, _, _, rfl⟩ := hX3; exact eK.symm.trans eK2.symm
      have eKK : X3.K = X.K := (eK3.trans eK2).trans eK
      have S5' : Sy X3.K (J.grd μ' H5) (adr M0 [(Dl, .lst (acc.map .dat))]) (f ds[i] (wip ρ (own.map (·.2)))) μ' σ4 H5 := by
        rw [eK3, eK2]
        have := S5.grd
        exact this
      refine he i ds[i] acc μ' X3 _ _ σ4 H5 _ hdi hI hX3 S5' fun v z μ'' H6 hI6 S6 pv => ?_
      have S6' : Sy X.K (J.grd μ' H5) (adr M0 [(Dl, .lst (acc.map .dat))]) (f ds[i] (wip ρ (own.map (·.2)))) μ'' σ4 H6 := by rw [← eKK]; exact S6
      have S7 := S35.keep S6'
      have hil : (μ'' ++ [(Dl, Mo.lst (acc.map .dat))])[μ''.length]? = some (Dl, .lst (acc.map .dat)) := by simp
      obtain ⟨vs, a1, a2⟩ := S7.own hil
      have hl1 := paired_len a2
      rw [List.length_map] at hl1
      refine ⟨vs, a1, sz_lt (by have := hlen _ _ _ hI; omega), acc ++ [z], μ'', hI6, ?_⟩
      have pv' : Dp X.K (hid (adr M0 (μ'' ++ [(Dl, .lst (acc.map .dat))])) H6) v z := by rw [← adr_app, ← eKK]; exact pv
      have S8 := S7.upd (.lst ((acc ++ [z]).map .dat)) (o := .lst (vs ++ [v])) hil ⟨vs ++ [v], upd_same, by rw [List.map_append]; exact paired_app a2 (.cons pv' .nil)⟩
      have e : (μ'' ++ [(Dl, Mo.lst (acc.map .dat))]).set μ''.length (Dl, .lst ((acc ++ [z]).map .dat)) = μ'' ++ [(Dl, .lst ((acc ++ [z]).map .dat))] := by simp
      rw [e] at S8
      exact S8
  · obtain ⟨acc, μ', hI, S'⟩ := p
    exact k Dl acc μ' H' hI ((S'.base S2.grdB).perm (List.perm_append_comm (l₁ := [_]) (l₂ := μ')))
theorem lcE_tree (S : Sy X.K B M0 ρ μ σ H) (hw : Jw X (adr M0 μ) tg iter σ H ds) (f : D → Ro → Ro) (hjs : ∀ j ∈ js, j ∈ own.map (·.2)) (I : Nat → List D → Mu → Prop) (h0 : I 0 [] μ) (hlen : ∀ i acc μ', I i acc μ' → acc.length ≤ 90000)
    (hg : ∀ X' d, Blk X scope X' → d ∈ ds → Jg X' tg js d (wip ρ (own.map (·.2))) (f d (wip ρ (own.map (·.2)))))
    (he : ∀ (i : Nat) (d : D) (acc : List D) (μ' : Mu) X' B' M' σ' H' (Q : VK), ds[i]? = some d → I i acc μ' → Blk X scope X' → Sy X'.K B' M' (f d (wip ρ (own.map (·.2)))) μ' σ' H' →
      (∀ v x μ'' H'', I (i + 1) (acc ++ [x]) μ'' → Sy X'.K B' M' (f d (wip ρ (own.map (·.2)))) μ'' σ' H'' → Dp X'.K (hid (adr M' μ'') H'') v x → Q v H'') → tW X' elt σ' H' Q)
    {Q : VK} (k : ∀ a acc μ' H', I ds.length acc μ' → Sy X.K B M0 ρ ((a, .lst (acc.map .dat)) :: μ') σ H' → Q (.ref a) H') :
    tLc (tI X tg iter) (tGb X scope tg) (tTsb X scope []) (tWb X scope elt) (own.map (·.2)) σ H Q := by
  exact hw S.all H (Ex.refl H) _ fun Jt2 H2 x2 yl => lcE_core (H := H) (S.ex x2) yl f hjs I h0 hlen hg he k
theorem sy_lcE (S : Sy X.K B M0 ρ μ σ H) (hw : Jw X (adr M0 μ) tg iter σ H ds) (f : D → Ro → Ro) (hjs : ∀ j ∈ js, j ∈ own.map (·.2)) (I : Nat → List D → Mu → Prop) (h0 : I 0 [] μ) (hlen : ∀ i acc μ', I i acc μ' → acc.length ≤ 90000)
    (hg : ∀ X' d, Blk X scope X' → d ∈ ds → Jg X' tg js d (wip ρ (own.map (·.2))) (f d (wip ρ (own.map (·.2)))))
    (he : ∀ (i : Nat) (d : D) (acc : List D) (μ' : Mu) X' B' M' σ' H' (Q : VK), ds[i]? = some d → I i acc μ' → Blk X scope X' → Sy X'.K B' M' (f d (wip ρ (own.map (·.2)))) μ' σ' H' →
      (∀ v x μ'' H'', I (i + 1) (acc ++ [x]) μ'' → Sy X'.K B' M' (f d (wip ρ (own.map (·.2)))) μ'' σ' H'' → Dp X'.K (hid (adr M' μ'') H'') v x → Q v H'') → tW X' elt σ' H' Q)
    (ok : BlkOk X.N X.env.scope scope own) (hc : X.calm = true) (hN : X.N.Nodup) {Q : VK} (k : ∀ a acc μ' H', I ds.length acc μ' → Sy X.K B M0 ρ ((a, .lst (acc.map .dat)) :: μ') σ H' → Q (.ref a) H') (hs : ∀ x, foldedSetIterable iter X.env x = pure x := by intro _; rfl) :
    tW X (.ListComp elt [⟨tg, iter, [], 0⟩] scope pos) σ H Q :=
  leW (pe_lc (own := own) (g := tGb X scope tg) (tt := tTsb X scope []) (te := tWb X scope elt) hc hN pi_I ok (fun s H C cl fp => ⟨fun pins s' σ' H' v u Q' I r h => h _ ⟨s, H, C, cl, fp, rfl⟩ pins s' u I r⟩)
    (fun s H C cl fp => ⟨fun pins s' σ' H' Q' I h => h _ ⟨s, H, C, cl, fp, rfl⟩ pins s' I⟩) (fun s H C cl fp => ⟨fun pins s' σ' H' Q' I h => h _ ⟨s, H, C, cl, fp, rfl⟩ pins s' I⟩) hs) (lcE_tree S hw f hjs I h0 hlen hg he k)
/-- a comprehension without effects, the new list is one's own -/
theorem lcN_own {ifs : List Expr} (S : Sy X.K B M0 ρ μ σ H) (hw : Jw X (adr M0 μ) tg iter σ H ds) (out : List (Option D)) (hl : out.length = ds.length) (hz : ds.length ≤ 90000) (f : D → Ro → Ro) (hjs : ∀ j ∈ js, j ∈ own.map (·.2))
    (hg : ∀ X' d, Blk X scope X' → d ∈ ds → Jg X' tg js d (wip ρ (own.map (·.2))) (f d (wip ρ (own.map (·.2)))))
    (ht : ∀ (i : Nat) (d : D) (o : Option D) X' B' M' σ' H', ds[i]? = some d → out[i]? = some o → Blk X scope X' → Sy X'.K B' M' (f d (wip ρ (own.map (·.2)))) μ σ' H' → Jts X' (adr M' μ) ifs σ' H' o.isSome)
    (he : ∀ (i : Nat) (d x : D) X' B' M' σ' H', ds[i]? = some d → out[i]? = some (some x) → Blk X scope X' → Sy X'.K B' M' (f d (wip ρ (own.map (·.2)))) μ σ' H' → Jd X' (adr M' μ) elt σ' H' x)
    {Q : VK} (k : ∀ a H', Sy X.K B M0 ρ ((a, .lst ((out.filterMap id).map .dat)) :: μ) σ H' → Q (.ref a) H') : tLc (tI X tg iter) (tGb X scope tg) (tTsb X scope ifs) (tWb X scope elt) (own.map (·.2)) σ H Q :=
  lcN_tree S hw out hl hz f hjs hg ht he S.all (Ex.refl H) fun a vs H2 x hn ha p => k a H2 (S.newN (.lst ((out.filterMap id).map .dat)) x hn ⟨vs, ha, paired_dat p⟩)
end
end J

set_option maxHeartbeats 4000000
/-! J12: an exception that was caught is kept as a value. -/
namespace J
open PySem PySem.Spec PyProof.Rows L2 Evl RZ
section
variable {X : Cx} {pins : List (Addr × Obj)} {σ : L2.St} {H : Hp} {s : Shared}
theorem Inv.addX {a : Addr} {o : HO} (I : Inv X pins σ H s) (hn : H a = none) (h0 : X.s_0.heap.get? a = none) (nL : a ≠ X.env.locals) (nc : ∀ x c, X.env.cells.lookup x = some c → c ≠ a) (np : ∀ p ∈ X.pn ++ pins, p.1 ≠ a) (new : ObjOk X.prog X.w (L2.upd H a o) s.heap a o) : Inv X pins σ (L2.upd H a o) s where
  ok := I.ok
  os := I.os
  bare := I.bare
  base := ⟨I.base.keep, I.base.slot, fun b u q n hx => by rw [upd_ne (fun z => by rw [z, h0] at q; cases q)]; exact I.base.free b u q n hx, I.base.there,
    fun b xs q => by rw [upd_ne (ne_of_none (I.base.tups b xs q) hn)]; exact I.base.tups b xs q, fun b u xs q => by rw [upd_ne (ne_of_none (I.base.frzs b u xs q) hn)]; exact I.base.frzs b u xs q,
    fun b ps q => by obtain ⟨m, e⟩ := I.base.tbls b ps q; exact ⟨m, by rw [upd_ne (ne_of_none e hn)]; exact e⟩⟩
  loc := I.loc
  cell := I.cell
  free := by rw [upd_ne (Ne.symm nL)]; exact I.free
  freeC := fun x c e => by rw [upd_ne (nc x c e)]; exact I.freeC x c e
  pin := fun p hp => by
    obtain ⟨h1, h2, h3⟩ := I.pin p hp
    exact ⟨h1, by rw [upd_ne (np p hp)]; exact h2, h3⟩
  hok := I.hok.laidN (fun _ _ q => q) hn new
  len := I.len
end
/-- what the clause 'except x as n' wishes of an exception of the body, where the suite keeps it -/
def wAsV (K : PySem.W.Frag) (c : Value) (i : Nat) (ts : Addr → Value → Option Addr → TS) (Wout : WX) (D : Ends) : WX := fun cls d σ H =>
  ∃ b, PySem.W.exmOne K cls c = some b ∧ (b = true → ∀ a, H a = none → ts a cls d { nx := fun σ' H' => H' a = none → D.nx (σ'.set i none) (L2.upd H' a (exV cls d a)), rt := fun _ _ => False, bk := fun _ _ => False, ct := fun _ _ => False } (σ.set i (some (.ref a))) H) ∧
    (b = false → Wout cls d σ H)
section
variable {X : Cx} {x n : Str} {c : Value} {i : Nat} {body suite : List Stmt} {b₀ : Stmt} {np pos pos' : Pos} {tb : WX → TS} {ts : Addr → Value → Option Addr → TS} {Wout : WX}
theorem ps_try_asV (hex : X.ex = []) (hs : X.stack = X.env :: X.outer) (hf : X.env.frame = some X.env.locals) (hN : X.N.Nodup) (hi : X.N[i]? = some n) (hln : X.env.kindOf n = some .local) (hc : Names X x c) (tk : Takes X Wout)
    (hb : ∀ (W : WX) (pn : List (Addr × Obj)) (xe : Value → Shared → Prop), Takes (X.tr pn xe) W → PassesOwn (model X.prog X.w) X.A X.env xe → PSs (X.tr pn xe) body (tb W))
    (hsu : ∀ (a : Addr) (oe : Obj) (cls : Value) (d : Option Addr) (pn : List (Addr × Obj)), Zc cls d oe → (∃ vs, oe.data = .fields vs) → PSs (X.suite a ((a, oe) :: pn)) (b₀ :: suite) (ts a cls d)) :
    PS X (.Try body [.ExceptHandler (some (.Name x np)) (some n) (b₀ :: suite) pos'] [] [] pos) (fun D σ H => tb (wAsV X.K c i ts Wout D) D σ H) := by
  refine ⟨fun pins s σ H D I h => ?_⟩
  have ok := I.ok
  have hfr : X.A.frames = some (X.env :: X.outer) := by rw [ok.frames, hs]
  have hloc : Loc X.env.scope n := .inl hln
  refine wpAny_Try_except ?_
  refine wpAny_mono ((hb (wAsV X.K c i ts Wout D) (X.pn ++ pins) (fun e s₁ => wpAny (model X.prog X.w) X.A (noteFrame e X.env) (fun _ s₂ => wpAny (model X.prog X.w) X.A (setFlight e none) (fun _ s₃ =>
    wpAny (model X.prog X.w) X.A (handleBy e X.env [.ExceptHandler (some (.Name x np)) (some n) (b₀ :: suite) pos']) (SP X pins D) X.xe s₃) X.xe s₂) X.xe s₁) (fun u s' xx => ?_) PassesOwn.looking).run [] s σ H D (I.toTry _) h) (fun f s1 hsp => ?_) (fun e s1 he => he)
  · obtain ⟨a, B, sI, pins', σ', H', cls, d, rfl, J', nb, up, sky, na, os, ag, b, hb1, hyes, hno⟩ := xx
    have J : Inv X pins σ' H' sI := J'.ofTry ok
    have sky' : Sky B (X.env :: X.outer) a (Zc cls d) X.env.locals s'.heap := by rw [← hs]; exact sky
    show wpAny (model X.prog X.w) X.A (noteFrame (.ref a) X.env) _ _ _
    refine Sky.land Zc.steady hfr hf sky' fun h3 fl3 up3 => ?_
    have J3 : Inv X pins σ' H' { s' with heap := h3 } := J.landed nb fl3.1 (up.trans up3) os ag
    obtain ⟨oe3, vs3, he3, hz3, hd3⟩ := fl3.there
    have notFr : ∀ {h : Heap} {o : Obj} {vs : Array Value}, h.FunFrames B (X.env :: X.outer) → h.get? a = some o → o.data = .fields vs → a ∉ frs (X.env :: X.outer) := fun {h o vs} ff e dd hm => by
      obtain ⟨_, o', e', hnf⟩ := ff.mem hm
      rw [e] at e'; cases e'
      exact hnf _ dd
    have nfr := notFr fl3.2.2.1 he3 hd3
    have nL : a ≠ X.env.locals := fun z => nfr (List.mem_filterMap.mpr ⟨X.env, List.mem_cons_self, by rw [hf, z]⟩)
    have nF : a ∉ X.fs := fun hm => by
      obtain ⟨e, he, q⟩ := List.mem_filterMap.mp hm
      exact nfr (List.mem_filterMap.mpr ⟨e, List.mem_cons_of_mem _ he, q⟩)
    -- a is new
    have hB0 : B.get? a = none := fl3.2.1
    have hI0 : sI.heap.get? a = none := by
      cases q : sI.heap.get? a with
      | none => rfl
      | some o =>
        have := nb a o q (by rw [hs]; exact nfr)
        rw [hB0] at this; cases this
    have h00 : X.s_0.heap.get? a = none := by
      cases q : X.s_0.heap.get? a with
      | none => rfl
      | some o =>
        by_cases hx : a ∈ X.ex
        · rw [hex] at hx; cases hx
        · obtain ⟨o', e⟩ := J.base.there a o q hx
          rw [hI0] at e; cases e
    have npn : ∀ p ∈ X.pn ++ pins, p.1 ≠ a := fun p hp z => by
      have := (J.pin p hp).1
      rw [z, hI0] at this; cases this
    have ncl : ∀ y c, X.env.cells.lookup y = some c → c ≠ a := fun y c e z => by
      obtain ⟨w', o, e1, _⟩ := J.cell y c e
      rw [z, hI0] at e1; cases e1
    have S3 := J3.suite he3 hd3 na nL nF
    refine wpAny_handleBy_cons (codeAny_handlers_test ?_) (by intro q; cases q)
    have LT : PySem.W.Looks (model X.prog X.w) h3 (typeOf (.ref a)) cls := fun A Q E s k q => wpAny_typeOf_ref (k _ _ he3) (by rw [hz3.1]; exact q)
    have LM := PySem.W.exm_one (M := model X.prog X.w) (J3.kIn) LT hb1
    have test : ∀ {Q : Value → Shared → Prop} {E : Value → Shared → Prop}, Q c { s' with heap := h3 } → wpAny (model X.prog X.w) (X.A.mark (some (.ref a))) (eval (.Name x np) X.env) Q E { s' with heap := h3 } := fun {Q E} q => by
      obtain ⟨hg, hdbg, hm | ⟨hm, hv, hnn⟩⟩ := hc
      · exact ld_glob (X := X.suite a ((a, oe3) :: (X.pn ++ pins))) S3 hg hm q hdbg
      · exact ld_blt (X := X.suite a ((a, oe3) :: (X.pn ++ pins))) S3 hg hm hv q hnn hdbg
    refine test (LM.here ?_)
    cases b with
    | true =>
      refine codeAny_handlers_suite_as ?_
      refine HandSPX.lands_againZ fl3 fun h4 fl4 up4 => ?_
      have J4 : Inv X pins σ' H' { s' with heap := h4 } := J.landed nb fl4.1 ((up.trans up3).trans up4) os ag
      obtain ⟨oe4, vs4, he4, hz4, hd4⟩ := fl4.there
      have S4 := J4.suite he4 hd4 na nL nF
      refine store_ok (X := X.suite a ((a, oe4) :: (X.pn ++ pins))) (v := .ref a) S4 hN hi hloc rfl (fun s5 S5 => ?_) (.inr hln)
      refine wpAny_mono ((hsu a oe4 cls d (X.pn ++ pins) hz4 ⟨_, hd4⟩).run [] s5 _ H' _ S5 (hyes rfl a na)) (fun f s6 hsp => ?_) (fun _ _ z => False.elim z)
      cases f with
      | next =>
        obtain ⟨σ6, H6, S6, q6⟩ := hsp
        refine gone_ok (X := X.suite a ((a, oe4) :: (X.pn ++ pins))) S6 hN hi hln fun s7 S7 => ?_
        obtain ⟨p1, p2, _⟩ := S7.pin (a, oe4) (List.mem_append_left _ List.mem_cons_self)
        have J7 := S7.unsuite ok
        exact ⟨_, _, Inv.addX (a := a) (o := exV cls d a) J7 p2 h00 nL ncl npn ⟨⟨oe4, p1, hz4, _, hd4⟩, ⟨oe4, p1⟩, fun h1 h2 ⟨o, e, z, v⟩ k => ⟨o, k o e, z, v⟩⟩, q6 p2⟩
      | brk =>
        obtain ⟨σ6, H6, S6, q6⟩ := hsp
        exact q6.elim
      | cont =>
        obtain ⟨σ6, H6, S6, q6⟩ := hsp
        exact q6.elim
      | ret u =>
        obtain ⟨v6, σ6, H6, S6, r6, q6⟩ := hsp
        exact q6.elim
    | false =>
      show wpAny _ X.A (handleBy (.ref a) X.env []) _ _ _
      refine wpAny_handleBy_nil ?_
      obtain ⟨k1, k2, k3, oe, vs, T, oT, ts', he, hz, hd, h1, hr⟩ := id fl3
      unfold PySem.passOn
      refine wpAny_bind (wpAny_field he hd h1 ?_)
      rw [if_neg (show ¬ ((Value.ref T == Value.none) = true) from by simp)]
      have fin : wpAny (model X.prog X.w) X.A (setFlight (.ref a) X.env.frame) (fun _ s4 => wpAny (model X.prog X.w) X.A (throw (.ref a) : Sem Flow) (SP X pins D) X.xe s4) X.xe { s' with heap := h3 } := by
        rw [hf]
        refine HandSPX.setFlight_upZ fl3 fun h4 hh4 up4 => wpAny_throw (tk _ _ ?_)
        exact ⟨a, B, sI, pins, σ', H', cls, d, rfl, J, nb, (up.trans up3).trans up4, .inr (.inr (by rw [hs]; exact hh4)), na, os, ag, hno rfl⟩
      first
        | exact wpAny_bind (wpAny_pure (wpAny_bind fin))
        | exact wpAny_bind fin
  · cases f with
    | next =>
      obtain ⟨σ', H', J', q⟩ := hsp
      exact wpAny_execs_nil ⟨σ', H', J'.ofTry ok, q⟩
    | brk =>
      obtain ⟨σ', H', J', q⟩ := hsp
      exact ⟨σ', H', J'.ofTry ok, q⟩
    | cont =>
      obtain ⟨σ', H', J', q⟩ := hsp
      exact ⟨σ', H', J'.ofTry ok, q⟩
    | ret u =>
      obtain ⟨v, σ', H', J', r, q⟩ := hsp
      exact ⟨v, σ', H', J'.ofTry ok, r, q⟩
end
end J

set_option maxHeartbeats 4000000
/-! J13: caught(lambda: e), where caught keeps the exception. -/
namespace J
open PySem PySem.Spec PyProof.Rows L2 Evl RZ LamX
/-! ### data outlive a new code object in a table -/
section
variable {K : PySem.W.Frag} {H H' : Hp}
theorem rdN {a : Addr} {u : HO} (e : ExtN H H') (hu : ∀ ps, u ≠ .tbl ps) (h : Rd H a u) : Rd H' a u := by
  rcases h with h | ⟨o, h⟩
  · exact .inl (e a u h hu)
  · exact .inr ⟨o, e a _ h fun ps z => by cases z⟩
theorem sqLN {a : Addr} {xs : List V} (e : ExtN H H') (h : SqL K H a xs) : SqL K H' a xs := by
  rcases h with h | h
  · exact .inl (rdN e (fun ps z => by cases z) h)
  · exact .inr h
theorem sqTN {a : Addr} {xs : List V} (e : ExtN H H') (h : SqT K H a xs) : SqT K H' a xs := by
  rcases h with h | h
  · exact .inl (rdN e (fun ps z => by cases z) h)
  · exact .inr h
mutual
theorem dpN (e : ExtN H H') : ∀ (d : D) (v : V), Dp K H v d → Dp K H' v d
  | .none, _, h => by cases h; exact .non
  | .bool b, _, h => by cases h; exact .bl b
  | .int i, _, h => by cases h; exact .int i
  | .str x, _, h => by cases h; exact .str x
  | .list ds, _, h => by cases h with | lst a b => exact .lst (sqLN e a) (dpNA e ds _ b)
  | .tuple ds, _, h => by cases h with | tup a b => exact .tup (sqTN e a) (dpNA e ds _ b)
  | .dict _, _, h => by cases h
theorem dpNA (e : ExtN H H') : ∀ (ds : List D) (vs : List V), DpAll K H vs ds → DpAll K H' vs ds
  | [], _, h => by cases h; exact .nil
  | d :: ds, _, h => by cases h with | cons a b => exact .cons (dpN e d _ a) (dpNA e ds _ b)
end
theorem svN {s : Sv} {v : V} (e : ExtN H H') (h : s.holds K H v) : s.holds K H' v := by
  cases s with
  | dat d => exact dpN e d v h
  | val w => exact h
  | exc cls => obtain ⟨a, h1, h2⟩ := h; exact ⟨a, h1, e _ _ h2 fun ps z => by cases z⟩
theorem pairedN (e : ExtN H H') : ∀ {xs : List Sv} {vs : List V}, Paired (fun s v => s.holds K H v) xs vs → Paired (fun s v => s.holds K H' v) xs vs
  | _, _, .nil => .nil
  | _, _, .cons a b => .cons (svN e a) (pairedN e b)
theorem paired2N {κ : Type} (e : ExtN H H') : ∀ {xs : List (κ × Sv)} {vs : List (κ × V)}, Paired (fun (p : κ × Sv) (q : κ × V) => p.1 = q.1 ∧ p.2.holds K H q.2) xs vs → Paired (fun (p : κ × Sv) (q : κ × V) => p.1 = q.1 ∧ p.2.holds K H' q.2) xs vs
  | _, _, .nil => .nil
  | _, _, .cons a b => .cons ⟨a.1, svN e a.2⟩ (paired2N e b)
def noTab : Mo → Prop
  | .tab _ => False
  | _ => True
theorem moN {G G' : Hp} {a : Addr} {m : Mo} (e : ExtN G G') (e2 : ExtN H H') (h : m.holds K G H a) (n : noTab m) : m.holds K G' H' a := by
  cases m with
  | lst xs => obtain ⟨vs, h1, h2⟩ := h; exact ⟨vs, e2 _ _ h1 (fun ps z => by cases z), pairedN e h2⟩
  | dct xs => obtain ⟨vs, h1, h2⟩ := h; exact ⟨vs, e2 _ _ h1 (fun ps z => by cases z), paired2N e h2⟩
  | ins C dx xs => obtain ⟨vs, h1, h2⟩ := h; exact ⟨vs, e2 _ _ h1 (fun ps z => by cases z), paired2N e h2⟩
  | tab q => exact n.elim
theorem hidN {M : List Addr} (e : ExtN H H') : ExtN (hid M H) (hid M H') := fun a o h n => by
  by_cases ha : a ∈ M
  · rw [hid_in ha] at h; cases h
  · rw [hid_out ha] at h ⊢; exact e a o h n
/-- the state behind the making of a lambda -/
theorem Sy.tabbed {ρ : Ro} {μ : Mu} {σ : L2.St} {P : Addr} {q : Str} (S : Sy K (fun _ => none) [] ρ ((P, .tab q) :: μ) σ H) (hm : ∀ p ∈ μ, noTab p.2) (e : ExtN H H') (T : Tabs [(P, q)] H') : Sy K (fun _ => none) [] ρ ((P, .tab q) :: μ) σ H' := by
  have up := hidN (M := adr [] ((P, .tab q) :: μ)) e
  refine ⟨fun i s h => let ⟨v, a, b⟩ := S.sl i s h; ⟨v, a, svN up b⟩, S.ln, fun p hp => ?_, Al.nil, (fun _ _ z => by cases z), fun _ _ => rfl, S.dj⟩
  rcases List.mem_cons.mp hp with rfl | hp
  · obtain ⟨ps, h1, h2, h3⟩ := T (P, q) List.mem_cons_self
    refine ⟨ps, h1, h2, fun pos cv z => ?_⟩
    obtain ⟨c, c1, c2⟩ := h3 pos cv z
    refine ⟨c, c1, ?_⟩
    rw [hid_out fun hc => ?_]
    · exact c2
    · rcases List.mem_append.mp hc with hc | hc
      · obtain ⟨p, hp, rfl⟩ := List.mem_map.mp hc
        rcases List.mem_cons.mp hp with rfl | hp
        · rw [show H' P = _ from h1] at c2; cases c2
        · have := moN (K := K) up e (S.ob p (List.mem_cons_of_mem _ hp)) (hm p hp)
          revert this
          cases p.2 with
          | lst xs => rintro ⟨vs, h1, _⟩; rw [h1] at c2; cases c2
          | dct xs => rintro ⟨vs, h1, _⟩; rw [h1] at c2; cases c2
          | ins C dx xs => rintro ⟨vs, h1, _⟩; rw [h1] at c2; cases c2
          | tab q => rintro ⟨vs, h1, _⟩; rw [h1] at c2; cases c2
      · cases hc
  · exact moN up e (S.ob p (List.mem_cons_of_mem _ hp)) (hm p hp)
theorem Sy.tabs {ρ : Ro} {μ : Mu} {σ : L2.St} {P : Addr} {q : Str} {B : Hp} {M0 : List Addr} (S : Sy K B M0 ρ ((P, .tab q) :: μ) σ H) : Tabs [(P, q)] H := fun p hp => by
  obtain rfl := List.mem_singleton.mp hp
  obtain ⟨ps, h1, h2, h3⟩ := S.ob (P, .tab q) List.mem_cons_self
  refine ⟨ps, h1, h2, fun pos cv z => ?_⟩
  obtain ⟨c, c1, c2⟩ := h3 pos cv z
  exact ⟨c, c1, hid_le _ _ c2⟩
end
/-! ### found = None; try: a() / except e as n: found = n; return found -/
def TCaught (K : PySem.W.Frag) (CS : Addr) : (XK → Hp → VK → Prop) → Hp → VK → Prop := fun tl H Q =>
  tl (fun cls d H' => ∃ b, PySem.W.exmOne K cls (.ref CS) = some b ∧ (b = true → ∀ a, H' a = none → Q (.ref a) (L2.upd H' a (exV cls d a))) ∧ (b = false → False)) H fun _ H' => ∃ v, (some (some V.non) : Option (Option V)) = some (some v) ∧ Q v H'
theorem pss_len {X : Cx} {sts : List Stmt} {t : TS} (p : PSs X sts t) : PSs X sts (fun D σ H => σ.length = X.N.length → t D σ H) := ⟨fun pins s σ H D I h => p.run pins s σ H D I (h I.len)⟩
section
variable {X : Cx}
theorem caught_gives {x a e n f q : Str} {sg : Scope} {g CS : Addr} {cdg : Value} {j : Nat} {p0 p1 p2 p3 p4 p5 p6 p7 p8 p9 p10 p11 p12 p13 : Pos} (hnd : ([a, f, n] : List Str).Nodup) (hge : sg.names.lookup e = some .globalImplicit) (hme : X.mg e = some (.ref CS)) (hde : (e == ("__debug__" : Str)) = false)
    (hlf : sg.names.lookup f = some .local) (hln : sg.names.lookup n = some .local) (hdf : (f == ("__debug__" : Str)) = false) (hcf : (f == ("__classdict__" : Str)) = false) (hdn : (n == ("__debug__" : Str)) = false) (hcn : (n == ("__classdict__" : Str)) = false) :
    GivesTo X [a, f, n] x sg g cdg [.Assign [.Name f p0] (.Constant .none j p1) p2, .Try [.Expr (.Call (.Name a p3) [] [] p4) p5] [.ExceptHandler (some (.Name e p6)) (some n) [.Assign [.Name f p7] (.Name n p8) p9] p10] [] [] p11, .Return (some (.Name f p12)) p13] a q (TCaught X.K CS) := by
  intro fa c' s H Q tl act hc h
  have hgl : Gl (cxOf C8.CX0 X.prog X.w X.K X.mg X.base [a, f, n] x sg g cdg X.A X.stack s H C8.E0).nox e := hge
  have hN : (cxOf C8.CX0 X.prog X.w X.K X.mg X.base [a, f, n] x sg g cdg X.A X.stack s H C8.E0).nox.N.Nodup := hnd
  have vf : Vis sg f := .inl hlf
  have vn : Vis sg n := .inl hln
  refine ⟨_, pss_cons (ps_set (X := (cxOf C8.CX0 X.prog X.w X.K X.mg X.base [a, f, n] x sg g cdg X.A X.stack s H C8.E0).nox) (i := 1) hN rfl (.inl hlf) pe_non (by rfl) (.inr hlf))
    (pss_cons (ps_try_asV (X := (cxOf C8.CX0 X.prog X.w X.K X.mg X.base [a, f, n] x sg g cdg X.A X.stack s H C8.E0).nox) (c := .ref CS) (i := 2)
      (tb := fun W D σ H => ∃ Ech : XK, (∀ cls d σ' H', Ech cls d H' → W cls d σ' H') ∧ σ[0]? = some (some (.ref fa)) ∧ H c' = some (CodeO c' q) ∧ tl Ech H fun _ H' => D.nx σ H')
      rfl rfl rfl hN rfl hln ⟨hgl, hde, .inl hme⟩ takes0 (fun W pn xe tk _ => ?_) (ts := fun ad cls d D σ H => σ.length = 3 → tAsg (tVar 2) (gName 1) D σ H) (fun ad oe cls d pn _ _ => pss_len (X := (cxOf C8.CX0 X.prog X.w X.K X.mg X.base [a, f, n] x sg g cdg X.A X.stack s H C8.E0).nox.suite ad ((ad, oe) :: pn)) (pss_one (ps_set (X := (cxOf C8.CX0 X.prog X.w X.K X.mg X.base [a, f, n] x sg g cdg X.A X.stack s H C8.E0).nox.suite ad ((ad, oe) :: pn)) (i := 1) hN rfl (.inl hlf) (pe_var (i := 2) rfl vn hdn hcn) (by rfl) (.inr hlf)))))
      (pss_one (ps_ret (pe_var (i := 1) rfl vf hdf hcf)))), ?_⟩
  · refine ⟨fun pins s' σ H' D I h' => ?_⟩
    obtain ⟨Ech, hW, h1, h2, h3⟩ := h'
    have hp := act W pn xe Ech p3 p4 tk hW
    have hq := pss_one (ps_expr (pos := p5) hp (by rfl))
    exact hq.run pins s' σ H' D I ⟨h1, h2, h3⟩
  · refine ⟨_, fun cls d σ' H' hE => ?_, ?_, hc, h⟩
    · obtain ⟨b, e1, e2, e3⟩ := hE
      refine ⟨b, e1, fun hb ad hn hlen => ?_, fun hb => (e3 hb).elim⟩
      have hlen : (σ'.set 2 (some (V.ref ad))).length = 3 := hlen
      have hl : σ'.length = 3 := by rw [List.length_set] at hlen; exact hlen
      match σ', hl with
      | [s0, s1, s2], _ => exact ⟨.ref ad, rfl, fun hn => ⟨.ref ad, rfl, e2 hb ad hn⟩⟩
    · rfl
/-- what the lambda's body is to be -/
def tLm (X : Cx) (scope : Scope) (body : Expr) (k : Nat) : XK → TE := fun E σ H Q => ∀ (A : Around) (outer : List Env) (s : Shared) (H0 : Hp) (f c' : Addr), Room k (A.deeper (lamEnv X scope s.heap.objs.size f c')) → tW (lamCx X A outer s H0 E scope f c') body σ H Q
theorem jm_caught {k : Nat} {x a e n f : Str} {CS g c P : Addr} {st : Stmt} {fd : FuncData} {params : Arguments} {body : Expr} {scope : Scope} {p lpos pos : Pos} {j : Nat} {p0 p1 p2 p3 p4 p5 p6 p7 p8 p9 p10 p11 p12 p13 : Pos} {ρ : Ro} {μ : Mu} {σ : L2.St} {H : Hp} {Q : VK}
    (S : Sy X.K (fun _ => none) [] ρ ((P, .tab (X.env.qual ++ "<lambda>")) :: μ) σ H) (hmu : ∀ p ∈ μ, noTab p.2)
    (F : FunD X.K x x (defArgs st) [.Assign [.Name f p0] (.Constant .none j p1) p2, .Try [.Expr (.Call (.Name a p3) [] [] p4) p5] [.ExceptHandler (some (.Name e p6)) (some n) [.Assign [.Name f p7] (.Name n p8) p9] p10] [] [] p11, .Return (some (.Name f p12)) p13] (defScope st) [] [] g fd) (hm : X.mg x = some (.ref g))
    (hbi : ∀ (kV doc pm : Value) (an : Option Addr) (cdv ct : Value) (us : List Value), us.length = [a].length → bindArgs (PySem.W.fnOf x x (defArgs st) [.Assign [.Name f p0] (.Constant .none j p1) p2, .Try [.Expr (.Call (.Name a p3) [] [] p4) p5] [.ExceptHandler (some (.Name e p6)) (some n) [.Assign [.Name f p7] (.Name n p8) p9] p10] [] [] p11, .Return (some (.Name f p12)) p13] (defScope st) .none kV doc pm an cdv ct) ⟨us, []⟩ = pure ([a].zip us))
    (Sg : FnScope [a, f, n] [a] (defScope st)) (hva : Vis (defScope st) a) (hge : (defScope st).names.lookup e = some .globalImplicit) (hme : X.mg e = some (.ref CS)) (hde : (e == ("__debug__" : Str)) = false)
    (hlf : (defScope st).names.lookup f = some .local) (hln : (defScope st).names.lookup n = some .local) (hdf : (f == ("__debug__" : Str)) = false) (hcf : (f == ("__classdict__" : Str)) = false) (hdn : (n == ("__debug__" : Str)) = false) (hcn : (n == ("__classdict__" : Str)) = false)
    (TB : TabB X.base X.mg c P) (hcode : X.env.code = .ref c) (hr : Room (k + 2) X.A) (L : LamS X.env.scope scope)
    (hbody : ∀ (A : Around) (outer : List Env) (s : Shared) (H0 : Hp) (f' c' : Addr) (H1 : Hp) (E : XK), Room k (A.deeper (lamEnv X scope s.heap.objs.size f' c')) → Sy X.K (fun _ => none) [] ρ ((P, .tab (X.env.qual ++ "<lambda>")) :: μ) σ H1 →
      (∀ cls H', PySem.W.exmOne X.K cls (.ref CS) = some true → Sy X.K (fun _ => none) [] ρ ((P, .tab (X.env.qual ++ "<lambda>")) :: μ) σ H' → E cls none H') → tW (lamCx X A outer s H0 E scope f' c') body σ H1 (fun _ H' => Q .non H'))
    (hQ : ∀ cls v H', PySem.W.exmOne X.K cls (.ref CS) = some true → Sy X.K (fun _ => none) [] ρ ((P, .tab (X.env.qual ++ "<lambda>")) :: μ) σ H' → (Sv.exc cls).holds X.K (hid (adr [] ((P, .tab (X.env.qual ++ "<lambda>")) :: μ)) H') v → Q v H')
    (hg : Gl X x := by rfl) (hdef : defaultsOf params X.env = ([], []) := by rfl) (hbind : ∀ (q : Str) (cl : List (Str × Addr)) (pm cv ctv : Value), bindArgs (PySem.W.kla_fn "<lambda>" q params body scope cl pm cv ctv) ⟨[], []⟩ = pure [] := by intros; rfl)
    (hdb : (x == ("__debug__" : Str)) = false := by decide) (hd : (a == ("__debug__" : Str)) = false := by decide) (hcd : (a == ("__classdict__" : Str)) = false := by decide) : tW X (.Call (.Name x p) [.Lambda params body scope lpos] [] pos) σ H Q := by
  have hb := F.bindsN (ps := [a]) hbi
  obtain ⟨oc, od, dV, kV, doc, pm, an, cdv, ct, osl, efd, lk, hcg, _, _⟩ := F.ex
  subst efd
  refine leW (pe_lamcall (T := [(P, X.env.qual ++ "<lambda>")]) (TT := TCaught X.K CS) (t := tLm X scope body k) hg hm F.kp lk hcg hb Sg rfl hva
    (caught_gives Sg.nd hge hme hde hlf hln hdf hcf hdn hcn) TB hcode List.mem_cons_self (fun p hp _ => by rw [List.mem_singleton.mp hp]) hr L hdef hbind (fun A outer s H0 E f' c' hr' => ⟨fun pins s' σ' H' Q' I h => h A outer s H0 f' c' hr' pins s' I⟩) hdb hd hcd) ⟨S.tabs, fun H1 eN T1 => ?_⟩
  have S1 := S.tabbed hmu eN T1
  intro A outer s H0 f' c' hr'
  refine tW_mono (hbody A outer s H0 f' c' H1 _ hr' S1 fun cls H' he S' => ?_) fun v H' q => ⟨.non, rfl, q⟩
  refine ⟨true, he, fun _ ad ha => hQ cls (.ref ad) _ he (S'.ex (Ex.new ha)) ⟨ad, rfl, ?_⟩, fun z => by cases z⟩
  rw [hid_out (S'.all.out ha)]
  exact upd_same
end
end J

set_option maxHeartbeats 4000000
/-! J14: further rules. -/
namespace J
open PySem PySem.Spec PyProof.Rows L2 Evl RZ
section
variable {X : Cx} {B H : Hp} {M M0 : List Addr} {ρ ρ2 : Ro} {μ : Mu} {σ : L2.St} {pos p p2 : Pos} {a b c e lo hi : Expr} {d : D} {ds es : List D} {s : Sv} {rest : List Stmt} {D' : Ends} {i j : Int} {js : List Nat} {k l m : Bool}
/-- a test that chooses -/
theorem pt_ifExp {tc ta tb : TT} (hc : PT X c tc) (ha : PT X a ta) (hb : PT X b tb) : PT X (.IfExp c a b pos) (fun σ H Q => tc σ H fun k H1 => if k = true then ta σ H1 Q else tb σ H1 Q) := by
  refine ⟨fun pins s σ H Q I h => ?_⟩
  have e : isTrue (.IfExp c a b pos) X.env (eval (.IfExp c a b pos) X.env) = (do if ← isTrue c X.env (eval c X.env) then isTrue a X.env (eval a X.env) else isTrue b X.env (eval b X.env)) := rfl
  rw [e]
  refine wpAny_bind (thn (hc.run pins s σ H _ I h) fun k s1 ⟨H1, I1, q1⟩ => ?_)
  cases k with
  | true => exact ha.run pins s1 σ H1 Q I1 q1
  | false => exact hb.run pins s1 σ H1 Q I1 q1
theorem jt_if (hc : Jt X M c σ H k) (ha : k = true → Jt X M a σ H l) (hb : k = false → Jt X M b σ H l) : Jt X M (.IfExp c a b pos) σ H l := fun al H1 x Q q => leT (pt_ifExp pt_T pt_T pt_T) (hc al H1 x _ fun H2 y => by
  cases k with
  | true => rw [if_pos rfl]; exact ha rfl al H2 (x.trans y) Q fun H3 z => q H3 (y.trans z)
  | false => rw [if_neg Bool.false_ne_true]; exact hb rfl al H2 (x.trans y) Q fun H3 z => q H3 (y.trans z))
/-- a target of any form, the value made with effects -/
theorem sy_asgE {tg : Expr} (h : tW X e σ H fun v H1 => tG X tg v σ H1 fun σ2 H2 => tB X rest D' σ2 H2)
    (hs : swapsWithSole [tg] e pos.line X.env = pure false := by rfl) (hw : swappedStores [tg] e X.env = pure none := by rfl) (h1 : (assignEach [tg] X.env).map (·.2) = [assign tg X.env] := by rfl) : tB X (.Assign [tg] e pos :: rest) D' σ H :=
  tB_cons (ps_asg pe_W pg_G hs hw h1) h
/-- a product with a small factor -/
theorem jd_mulS (ha : Jd X M a σ H (.int i)) (hb : Jd X M b σ H (.int j)) (hc : CMul i j) : Jd X M (.BinOp a .Mult b pos) σ H (.int (i * j)) := jd_opI op_mul ha hb hc
/-- x not in a list of data -/
theorem jt_notIn (hu : X.A.units + 65 < cLine) (ha : Jd X M a σ H d) (hb : Jd X M b σ H (.list ds)) (hm : behindInMarks .NotIn b = false) (s1 : SeqAt.shaped d = true := by rfl) (s2 : SeqAt.shaped (.list ds) = true := by rfl) : Jt X M (.Compare a [.NotIn] [b] pos) σ H (!ds.any fun z => PyData.eqv z d) := fun al H1 x Q q =>
  leT (pt_cmpR (op_notInD hu) pe_W pe_W hm) (ha al H1 x _ fun v H2 y p => hb al H2 (x.trans y) _ fun w H3 z r => ⟨d, ds, (p.ex (hid_ex z)).ex hid_le, r.ex hid_le, s1, s2, _, rfl, q H3 (y.trans z)⟩)
/-- tuples: t + u, t[:n], t[n:] -/
theorem jd_cat (ha : Jd X M a σ H (.tuple ds)) (hb : Jd X M b σ H (.tuple es)) (hz : ds.length + es.length ≤ 90000) : Jd X M (.BinOp a .Add b pos) σ H (.tuple (ds ++ es)) := fun al H1 x Q q =>
  leW (pe_op op_catA pe_W pe_W) (ha al H1 x _ fun v H2 y p => hb al H2 (x.trans y) _ fun w H3 z r => by
    obtain ⟨t, xs, e1, e2, e3⟩ := dTup p
    obtain ⟨u, ys, f1, f2, f3⟩ := dTup r
    have e2' := ex_t (hid_ex (M := M) z) e2
    have e3' := e3.ex (hid_ex (M := M) z)
    refine ⟨t, u, xs, ys, e1, f1, ex_t hid_le e2', ex_t hid_le f2, sz_of (by rw [e3.len, f3.len]; omega), fun h0 => ?_, fun _ h0 => ?_, fun _ _ c hc => ?_⟩
    · subst h0
      cases e3
      exact q _ H3 (y.trans z) (f1 ▸ r)
    · subst h0
      cases f3
      rw [List.append_nil] at q
      exact q _ H3 (y.trans z) (.tup e2' e3')
    · have up := hid_ex (M := M) (Ex.new (o := .tup (xs ++ ys)) hc)
      exact q _ _ ((y.trans z).trans (Ex.new hc)) (.tup (SqT.of ((al.ex ((x.trans y).trans z)).newEx hc)) ((e3'.ex up).append (f3.ex up))))
theorem dpTake {K : PySem.W.Frag} {G : Hp} : ∀ {vs : List V} {ds : List D} (n : Nat), DpAll K G vs ds → DpAll K G (vs.take n) (ds.take n)
  | _, _, 0, h => by simpa using DpAll.nil
  | _, _, n + 1, .nil => by simpa using DpAll.nil
  | _, _, n + 1, .cons a t => by rw [List.take_succ_cons, List.take_succ_cons]; exact .cons a (dpTake n t)
theorem dpDrop {K : PySem.W.Frag} {G : Hp} : ∀ {vs : List V} {ds : List D} (n : Nat), DpAll K G vs ds → DpAll K G (vs.drop n) (ds.drop n)
  | _, _, 0, h => by simpa using h
  | _, _, n + 1, .nil => by simpa using DpAll.nil
  | _, _, n + 1, .cons a t => by rw [List.drop_succ_cons, List.drop_succ_cons]; exact dpDrop n t
theorem sIx_le {n d k : Nat} (h : k ≤ n) : HT.sIx n d (some (k : Int)) = k := by rw [HT.sIx_nat]; omega
theorem jd_slTo {n : Nat} (ha : Jd X M a σ H (.tuple ds)) (hb : Jd X M b σ H (.int i)) (hi : i = (n : Int)) (hn : n ≤ ds.length) : Jd X M (.Subscript a (.Slice none (some b) none p2) pos) σ H (.tuple (ds.take n)) := fun al H1 x Q q =>
  leW (pe_slice sl_tupA pe_W po_none (po_some pe_W)) (ha al H1 x _ fun v H2 y p => hb al H2 (x.trans y) _ fun w H3 z r => by
    obtain ⟨t, xs, e1, e2, e3⟩ := dTup p
    have e2' := ex_t (hid_ex (M := M) z) e2
    have e3' := e3.ex (hid_ex (M := M) z)
    have hl := e3.len
    refine ⟨i, dInt r, t, xs, e1, ex_t hid_le e2', fun h0 => ?_, fun _ c hc => ?_⟩
    · rw [hi, HT.sIx_none, sIx_le (by omega)] at h0
      have : ds.take n = ds := by rw [List.take_of_length_le]; omega
      rw [this] at q
      exact q _ H3 (y.trans z) (.tup e2' e3')
    · have up := hid_ex (M := M) (Ex.new (o := .tup (L2.cutV xs none (some i))) hc)
      refine q _ _ ((y.trans z).trans (Ex.new hc)) (.tup (SqT.of ((al.ex ((x.trans y).trans z)).newEx hc)) ?_)
      have e : L2.cutV xs none (some i) = xs.take n := by
        unfold L2.cutV
        rw [hi, HT.sIx_none, sIx_le (by omega), List.drop_zero, Nat.sub_zero]
      rw [e] at up ⊢
      exact dpTake n (e3'.ex up))
theorem jd_slFrom {n : Nat} (ha : Jd X M a σ H (.tuple ds)) (hb : Jd X M b σ H (.int i)) (hi : i = (n : Int)) (hn : n ≤ ds.length) : Jd X M (.Subscript a (.Slice (some b) none none p2) pos) σ H (.tuple (ds.drop n)) := fun al H1 x Q q =>
  leW (pe_slice sl_tupA pe_W (po_some pe_W) po_none) (ha al H1 x _ fun v H2 y p => hb al H2 (x.trans y) _ fun w H3 z r => by
    obtain ⟨t, xs, e1, e2, e3⟩ := dTup p
    have e2' := ex_t (hid_ex (M := M) z) e2
    have e3' := e3.ex (hid_ex (M := M) z)
    have hl := e3.len
    refine ⟨i, dInt r, t, xs, e1, ex_t hid_le e2', fun h0 => ?_, fun _ c hc => ?_⟩
    · rw [hi, sIx_le (by omega)] at h0
      have : ds.drop n = ds := by rw [h0.1, List.drop_zero]
      rw [this] at q
      exact q _ H3 (y.trans z) (.tup e2' e3')
    · have up := hid_ex (M := M) (Ex.new (o := .tup (L2.cutV xs (some i) none)) hc)
      refine q _ _ ((y.trans z).trans (Ex.new hc)) (.tup (SqT.of ((al.ex ((x.trans y).trans z)).newEx hc)) ?_)
      have e : L2.cutV xs (some i) none = xs.drop n := by
        unfold L2.cutV
        rw [hi, HT.sIx_none, sIx_le (by omega), List.take_of_length_le]
        rw [List.length_drop]; omega
      rw [e] at up ⊢
      exact dpDrop n (e3'.ex up))
end
/-! ### isinstance of a caught exception, and of a datum, with one's own class -/
def rIsV (K : PySem.W.Frag) (D : Addr) : List V → Hp → VK → Prop := fun xs H Q => ∃ (a : Addr) (c : V) (cv : Value) (b : Bool), xs = [.ref a, c] ∧ H a = some (exV (.ref D) none a) ∧ (∀ u, RelV c u → u = cv) ∧ PySem.W.kitOne K (.ref D) cv = some b ∧ Q (.bl b) H
theorem call_isV {X : Cx} {D : Addr} (C : ExcC X.K D) : CallR X (.builtin "isinstance") (rIsV X.K D) := by
  intro pins s σ H xs us Q I r h
  obtain ⟨a, c, cv, b, rfl, ha, hcv, e, q⟩ := h
  cases r with
  | cons rx rr =>
    cases rr with
    | cons rt rr =>
      cases rr
      cases rx
      have ec := hcv _ rt
      subst ec
      obtain ⟨⟨oe, hget, hz, hf⟩, _⟩ := I.hok a _ ha
      obtain ⟨vs, hv⟩ := hf
      have J : PySem.W.InstAt s.heap a oe D none := by
        obtain ⟨oc, od, oda, osl⟩ := oe
        obtain ⟨h1, h2⟩ := hz
        dsimp only at h1 h2 hv
        subst h1 h2 hv
        exact ⟨hget, rfl, rfl, trivial⟩
      exact PySem.W.kia_one (PySem.W.handS_kitx_exc C.hg C.hk C.hs C.hd C.ha C.hn C.ht C.hm) I.kIn J e (fun z => nomatch z) fun tk => ⟨.bl b, H, I.kept (t' := tk) fun _ _ z => z, rfl, q⟩
/-- isinstance(e, T), e with effects, T a class of one's own: what e made is told -/
theorem jm_isE {X : Cx} {σ : L2.St} {H : Hp} {a : Expr} {T : Str} {p p2 pos : Pos} {C : Addr} {Q : VK} {r : List V → Hp → VK → Prop} (hc : CallR X (.builtin "isinstance") r) (hm : X.mg "isinstance" = none) (hT : X.mg T = some (.ref C)) (h : tW X a σ H fun v H1 => r [v, .ref C] H1 Q) (hg : Gl X "isinstance" := by rfl) (hgT : Gl X T := by rfl)
    (hd : (T == ("__debug__" : Str)) = false := by decide) (hs : starEach [a, .Name T p2] X.env = (false, eval a X.env) :: starEach [.Name T p2] X.env := by rfl) (hs2 : starEach [.Name T p2] X.env = (false, eval (.Name T p2) X.env) :: starEach [] X.env := by rfl) (hpl : (backTo pos (starEach [.Name T p2] X.env)).any (·.1) = false := by rfl) :
    tW X (.Call (.Name "isinstance" p) [a, .Name T p2] [] pos) σ H Q :=
  leW (pe_callB hc hg hm (by decide +kernel) (pa_cons pe_W (pa_cons (pe_glob (v := .ref C) hgT hT rfl hd) pa_nil hs2) hs) (by decide) (by decide) hs hpl) h
end J

set_option maxHeartbeats 4000000
/-! J15: lcm. -/
namespace J
open PySem PySem.Spec PyProof.Rows L2 Evl RZ
def rLcm : List V → Hp → VK → Prop := fun vs H Q => ∃ a b : Nat, vs = [.int (a : Int), .int (b : Int)] ∧ 0 < a ∧ 0 < b ∧ a < 2 ^ 60 ∧ b < 2 ^ 60 ∧ Q (.int ((Nat.lcm a b : Nat) : Int)) H
theorem cr_lcm {X : Cx} : CallR X (.builtin "math.lcm") rLcm := by
  intro pins s σ H vs us Q I r h
  obtain ⟨a, b, rfl, a0, b0, ha, hb, q⟩ := h
  obtain ⟨t, u, rfl⟩ := Vals.int2 r
  have hle : Nat.lcm a b < 2 ^ 120 := by
    have h1 : Nat.lcm a b ≤ a * b := Nat.le_of_dvd (Nat.mul_pos a0 b0) (Nat.lcm_dvd (Nat.dvd_mul_right a b) (Nat.dvd_mul_left b a))
    have h2 : a * b < 2 ^ 60 * 2 ^ 60 := Nat.mul_lt_mul'' ha hb
    rw [← Nat.pow_add] at h2
    omega
  refine PySem.W.mg_lcm_v (c := ((Nat.lcm a b : Nat) : Int)) (by rw [Int.natAbs_natCast]; omega) (by rw [Int.natAbs_natCast]; omega) (by rw [Int.natAbs_natCast, Int.natAbs_natCast]; simp [Nat.lcm]) ?_ ⟨.int _, H, I.tok _, ⟨_, rfl⟩, q⟩
  rw [Int.natAbs_natCast]
  exact Nat.lt_trans (PySem.Flt.log2_lt_of (by decide) hle) (by decide)
theorem jd_lcm {X : Cx} {M : List Addr} {σ : L2.St} {H : Hp} {a b : Expr} {m n : Nat} {p pos : Pos} {x : Str} (hm : X.mg x = some (.builtin "math.lcm")) (ha : Jd X M a σ H (.int m)) (hb : Jd X M b σ H (.int n)) (h1 : 0 < m ∧ m < 2 ^ 60) (h2 : 0 < n ∧ n < 2 ^ 60) (hg : Gl X x := by rfl) (hdb : (x == ("__debug__" : Str)) = false := by decide) (hs : starEach [a, b] X.env = (false, eval a X.env) :: starEach [b] X.env := by rfl)
    (hs2 : starEach [b] X.env = (false, eval b X.env) :: starEach [] X.env := by rfl) (hpl : (backTo pos (starEach [b] X.env)).any (·.1) = false := by rfl) : Jd X M (.Call (.Name x p) [a, b] [] pos) σ H (.int ((Nat.lcm m n : Nat) : Int)) := fun al H1 y Q q =>
  leW (pe_callBfun cr_lcm hg hm (pa_cons pe_W (pa_cons pe_W pa_nil hs2) hs) hdb hs hpl) (ha al H1 y _ fun v H2 z r => hb al H2 (y.trans z) _ fun w H3 u t => ⟨m, n, by rw [dInt r, dInt t], h1.1, h2.1, h1.2, h2.2, q _ H3 (z.trans u) (.int _)⟩)
end J

set_option maxHeartbeats 4000000
/-! J16: own lists looked at; which data may be compared. -/
namespace J
open PySem PySem.Spec PyProof.Rows L2 Evl RZ
theorem lay_all {xs : List D} : PyData.canLayAll0 xs = true ↔ ∀ x ∈ xs, x.canLay0 = true := by
  induction xs with
  | nil => simp [PyData.canLayAll0]
  | cons a t ih => simp [PyData.canLayAll0, ih]
theorem dep_all {xs : List D} {n : Nat} : PyData.depthAll xs ≤ n ↔ ∀ x ∈ xs, x.depth ≤ n := by
  induction xs with
  | nil => simp [PyData.depthAll]
  | cons a t ih =>
    simp only [PyData.depthAll, List.mem_cons, forall_eq_or_imp, ← ih]
    omega
/-- data that may be compared, of at most n steps -/
def Lay (n : Nat) (d : D) : Prop := d.canLay0 = true ∧ d.depth ≤ n
theorem Lay.shaped {n : Nat} {d : D} (h : Lay n d) (hn : n ≤ 64) : SeqAt.shaped d = true := by
  unfold SeqAt.shaped
  rw [h.1, decide_eq_true (Nat.le_trans h.2 hn)]
  rfl
theorem lay_lst {n : Nat} {xs : List D} : Lay (n + 1) (.list xs) ↔ ∀ x ∈ xs, Lay n x := by
  unfold Lay
  simp only [PyData.canLay0, PyData.depth, lay_all, Nat.add_le_add_iff_right, dep_all]
  exact ⟨fun h x hx => ⟨h.1 x hx, h.2 x hx⟩, fun h => ⟨fun x hx => (h x hx).1, fun x hx => (h x hx).2⟩⟩
theorem lay_tup {n : Nat} {xs : List D} : Lay (n + 1) (.tuple xs) ↔ ∀ x ∈ xs, Lay n x := by
  unfold Lay
  simp only [PyData.canLay0, PyData.depth, lay_all, Nat.add_le_add_iff_right, dep_all]
  exact ⟨fun h x hx => ⟨h.1 x hx, h.2 x hx⟩, fun h => ⟨fun x hx => (h x hx).1, fun x hx => (h x hx).2⟩⟩
theorem lay_int {n : Nat} {i : Int} : Lay n (.int i) := ⟨rfl, Nat.zero_le _⟩
theorem lay_non {n : Nat} : Lay n .none := ⟨rfl, Nat.zero_le _⟩
theorem lay_bl {n : Nat} {b : Bool} : Lay n (.bool b) := ⟨rfl, Nat.zero_le _⟩
theorem Lay.mono {n m : Nat} {d : D} (h : Lay n d) (k : n ≤ m) : Lay m d := ⟨h.1, Nat.le_trans h.2 k⟩
theorem eqv_nil {xs : List D} : PyData.eqv (.list xs) (.list []) = xs.isEmpty := by
  cases xs <;> rfl
section
variable {X : Cx} {B H : Hp} {M0 : List Addr} {ρ : Ro} {μ : Mu} {σ : L2.St} {d : D} {pos : Pos} {e o b : Expr} {ds : List D} {a : Addr} {i : Nat}
theorem dats_all {K : PySem.W.Frag} {G G' : Hp} (up : Ex G G') : ∀ {ds : List D} {vs : List V}, Paired (fun s v => Sv.holds K G s v) (ds.map .dat) vs → DpAll K G' vs ds
  | [], _, h => by cases h; exact .nil
  | d :: ds, _, h => by cases h with | cons x y => exact .cons (Dp.ex x up) (dats_all up y)
theorem erase_sub {i : Nat} : ∀ b ∈ adr M0 (μ.eraseIdx i), b ∈ adr M0 μ := fun b hb => by
  rcases List.mem_append.mp hb with z | z
  · obtain ⟨p, hp, e⟩ := List.mem_map.mp z
    exact List.mem_append_left _ (List.mem_map.mpr ⟨p, List.mem_of_mem_eraseIdx hp, e⟩)
  · exact List.mem_append_right _ z
theorem Sy.notE (S : Sy X.K B M0 ρ μ σ H) {m : Mo} (hi : μ[i]? = some (a, m)) : a ∉ adr M0 (μ.eraseIdx i) := fun z => by
  rcases List.mem_append.mp z with z | z
  · obtain ⟨p, hp, e⟩ := List.mem_map.mp z
    obtain ⟨j, hj, hp2⟩ := List.mem_eraseIdx_iff_getElem?.mp hp
    exact S.apart hi (b := p.1) (n := p.2) hp2 (Ne.symm hj) e
  · exact S.dj.2 _ (List.mem_of_getElem? hi) z
/-- what is one's own list, as a datum, where it does not change meanwhile -/
theorem Sy.frzE (S : Sy X.K B M0 ρ μ σ H) (h : Js X (adr M0 μ) e σ H (.val (.ref a))) (hi : μ[i]? = some (a, .lst (ds.map .dat))) : Jd X (adr M0 (μ.eraseIdx i)) e σ H (.list ds) := fun _ H1 x Q q =>
  h S.all H1 x Q fun v H2 y p => by
    have p : v = .ref a := p
    subst p
    have S2 := S.ex (x.trans y)
    obtain ⟨vs, h1, h2⟩ := S2.own hi
    refine q _ H2 y (.lst (SqL.of ?_) (dats_all (hid_sub erase_sub) h2))
    rw [hid_out (S.notE hi)]
    exact h1
/-- .. a value without lists that is made of it -/
theorem Sy.lookL (S : Sy X.K B M0 ρ μ σ H) {xs : List Sv} (hi : μ[i]? = some (a, .lst xs)) (h : Jd X (adr M0 (μ.eraseIdx i)) e σ H d) (hd : noL d = true) : Jd X (adr M0 μ) e σ H d := by
  obtain ⟨vs, h1, _⟩ := S.own hi
  exact h.thaw hi h1 hd
/-- n-th of one's own list -/
theorem js_ixM {xs : List Sv} {n : Nat} {z : Int} {s : Sv} (S : Sy X.K B M0 ρ μ σ H) (ho : Js X (adr M0 μ) o σ H (.val (.ref a))) (hb : Jd X (adr M0 μ) b σ H (.int z)) (hi : μ[i]? = some (a, .lst xs)) (hz : z = (n : Int)) (hn : xs[n]? = some s) (hx : PlainIx b := by exact fun _ _ => rfl) : Js X (adr M0 μ) (.Subscript o b pos) σ H s := fun al H1 x Q q =>
  leW (pe_ix ix_list pe_W pe_W hx) (ho al H1 x _ fun v H2 y p => hb al H2 (x.trans y) _ fun w H3 z' r => by
    have p : v = .ref a := p
    subst p
    have S3 := S.ex ((x.trans y).trans z')
    obtain ⟨vs, h1, h2⟩ := S3.own hi
    obtain ⟨u, h3, h4⟩ := paired_get h2 hn
    exact ⟨a, vs, z, u, rfl, dInt r, .inl (.inl h1), by rw [hz]; exact atI_nat h3, q u H3 (y.trans z') h4⟩)
end
/-- a call that gets all of one's own objects -/
theorem jm_call1 {X : Cx} {B H : Hp} {M0 : List Addr} {ρ : Ro} {μ : Mu} {σ : L2.St} {pos p : Pos} {e : Expr} {es : List Expr} {k n : Nat} {x : Str} {ps : List Str} {Pre : List Sv → Mu → Prop} {R : List Sv → Mu → Sv → Mu → Prop} {ss : List Sv} {Q : VK} (S : Sy X.K B M0 ρ μ σ H) (F : Fd CX0 X.prog X.w X.K X.mg X.base k x ps (spM X.K n Pre R noF)) (hr : Room k X.A) (ha : Jsa X (adr M0 μ) (e :: es) σ H ss) (hn : ss.length = n) (hp : Pre ss μ)
    (kk : ∀ v s μ1' H', R ss μ s μ1' → Sy X.K B M0 ρ μ1' σ H' → s.holds X.K (hid (adr M0 μ1') H') v → Q v H') (hg : Gl X x := by rfl) (hdb : (x == ("__debug__" : Str)) = false := by decide)
    (he : starEach (e :: es) X.env = (false, eval e X.env) :: starEach es X.env := by rfl) (hpl : (backTo pos (starEach es X.env)).any (·.1) = false := by rfl) : tW X (.Call (.Name x p) (e :: es) [] pos) σ H Q := by
  have e1 : μ ++ [] = μ := List.append_nil μ
  refine jm_call (μ1 := μ) (μ2 := []) (by rw [e1]; exact S) F hr (by rw [e1]; exact ha) hn hp (fun v s μ1' H' hR S' hv => ?_) hg hdb he hpl
  rw [List.append_nil] at S' hv
  exact kk v s μ1' H' hR S' hv
theorem callM1 {X : Cx} {B H : Hp} {M0 : List Addr} {ρ : Ro} {μ : Mu} {σ : L2.St} {n : Nat} {Pre : List Sv → Mu → Prop} {R : List Sv → Mu → Sv → Mu → Prop} {ss : List Sv} {vs : List V} {Q : VK} (S : Sy X.K B M0 ρ μ σ H) (hv : Paired (fun s v => Sv.holds X.K (hid (adr M0 μ) H) s v) ss vs) (hn : ss.length = n) (hp : Pre ss μ)
    (k : ∀ v s μ1' H', R ss μ s μ1' → Sy X.K B M0 ρ μ1' σ H' → s.holds X.K (hid (adr M0 μ1') H') v → Q v H') : spM X.K n Pre R noF vs H Q E0 := by
  have e1 : μ ++ [] = μ := List.append_nil μ
  refine callM (μ1 := μ) (μ2 := []) (E := E0) (by rw [e1]; exact S) (by rw [e1]; exact hv) hn hp (fun v s μ1' H' hR S' hv => ?_) fun _ _ h => h.elim
  rw [List.append_nil] at S' hv
  exact k v s μ1' H' hR S' hv
/-- a comprehension: the tree of it is to be read -/
theorem tW_lc {X : Cx} {σ : L2.St} {H : Hp} {pos : Pos} {tg iter elt : Expr} {ifs : List Expr} {scope : Scope} {own : List (Str × Nat)} {Q : VK} (h : tLc (tI X tg iter) (tGb X scope tg) (tTsb X scope ifs) (tWb X scope elt) (own.map (·.2)) σ H Q) (ok : BlkOk X.N X.env.scope scope own) (hc : X.calm = true) (hN : X.N.Nodup)
    (hs : ∀ x, foldedSetIterable iter X.env x = pure x := by intro _; rfl) : tW X (.ListComp elt [⟨tg, iter, ifs, 0⟩] scope pos) σ H Q :=
  leW (pe_lc (own := own) (g := tGb X scope tg) (tt := tTsb X scope ifs) (te := tWb X scope elt) hc hN pi_I ok (fun s H C cl fp => ⟨fun pins s' σ' H' v u Q' I r h => h _ ⟨s, H, C, cl, fp, rfl⟩ pins s' u I r⟩)
    (fun s H C cl fp => ⟨fun pins s' σ' H' Q' I h => h _ ⟨s, H, C, cl, fp, rfl⟩ pins s' I⟩) (fun s H C cl fp => ⟨fun pins s' σ' H' Q' I h => h _ ⟨s, H, C, cl, fp, rfl⟩ pins s' I⟩) hs) h
/-- .. where what is walked is made with effects -/
theorem lcE_eff {X : Cx} {B H : Hp} {M0 : List Addr} {ρ : Ro} {σ : L2.St} {tg iter elt : Expr} {scope : Scope} {own : List (Str × Nat)} {js : List Nat} {Q : VK} (Z : Mu → List D → Prop)
    (hI : ∀ R : It → Hp → Prop, (∀ J H2 μ ds, Z μ ds → Sy X.K B M0 ρ μ σ H2 → Yl X.K (hid (adr M0 μ) H2) J ds → R J H2) → tI X tg iter σ H R) (f : D → Ro → Ro) (hjs : ∀ j ∈ js, j ∈ own.map (·.2)) (I : Mu → List D → Nat → List D → Mu → Prop) (h0 : ∀ μ ds, Z μ ds → I μ ds 0 [] μ) (hlen : ∀ μ ds, Z μ ds → ∀ i acc μ', I μ ds i acc μ' → acc.length ≤ 90000)
    (hg : ∀ X' d, Blk X scope X' → Jg X' tg js d (wip ρ (own.map (·.2))) (f d (wip ρ (own.map (·.2)))))
    (he : ∀ μ ds, Z μ ds → ∀ (i : Nat) (d : D) (acc : List D) (μ' : Mu) X' B' M' σ' H' (Q : VK), ds[i]? = some d → I μ ds i acc μ' → Blk X scope X' → Sy X'.K B' M' (f d (wip ρ (own.map (·.2)))) μ' σ' H' →
      (∀ v x μ'' H'', I μ ds (i + 1) (acc ++ [x]) μ'' → Sy X'.K B' M' (f d (wip ρ (own.map (·.2)))) μ'' σ' H'' → Dp X'.K (hid (adr M' μ'') H'') v x → Q v H'') → tW X' elt σ' H' Q)
    (k : ∀ μ ds, Z μ ds → ∀ a acc μ' H', I μ ds ds.length acc μ' → Sy X.K B M0 ρ ((a, .lst (acc.map .dat)) :: μ') σ H' → Q (.ref a) H') :
    tLc (tI X tg iter) (tGb X scope tg) (tTsb X scope []) (tWb X scope elt) (own.map (·.2)) σ H Q :=
  hI _ fun _ H2 μ ds hz S2 yl => lcE_core (H := H) S2 yl f hjs (I μ ds) (h0 μ ds hz) (hlen μ ds hz) (fun X' d hb _ => hg X' d hb) (he μ ds hz) (k μ ds hz)
end J

set_option maxHeartbeats 4000000
/-! J17: isinstance with two classes; sizes of data. -/
namespace J
open PySem PySem.Spec PyProof.Rows L2 Evl RZ
section
variable {X : Cx} {M : List Addr} {σ : L2.St} {H : Hp} {a : Expr} {d : D} {p pos : Pos}
theorem jd_isi2 {T1 T2 : Str} {t1 t2 : String} {k1 k2 : Bool} {q1 q2 q3 : Pos} {n : Nat} (hm : X.mg "isinstance" = none) (hT1 : X.mg T1 = none) (hT2 : X.mg T2 = none) (hv1 : bootBuiltins T1 = some (.type t1)) (hv2 : bootBuiltins T2 = some (.type t2)) (ha : Jd X M a σ H d) (hk1 : kitB (tyD d) t1 = some k1) (hk2 : kitB (tyD d) t2 = some k2)
    (hg : Gl X "isinstance" := by rfl) (hgT1 : Gl X T1 := by rfl) (hgT2 : Gl X T2 := by rfl) (hn1 : T1 ≠ "__name__" := by decide) (hn2 : T2 ≠ "__name__" := by decide) (hd1 : (T1 == ("__debug__" : Str)) = false := by decide) (hd2 : (T2 == ("__debug__" : Str)) = false := by decide)
    (hs1 : starEach [.Name T1 q1, .Name T2 q2] X.env = (false, eval (.Name T1 q1) X.env) :: starEach [.Name T2 q2] X.env := by rfl) (hs2 : starEach [.Name T2 q2] X.env = (false, eval (.Name T2 q2) X.env) :: starEach [] X.env := by rfl)
    (hs : starEach [a, .Tuple [.Name T1 q1, .Name T2 q2] n q3] X.env = (false, eval a X.env) :: starEach [.Tuple [.Name T1 q1, .Name T2 q2] n q3] X.env := by rfl) (hs3 : starEach [.Tuple [.Name T1 q1, .Name T2 q2] n q3] X.env = (false, eval (.Tuple [.Name T1 q1, .Name T2 q2] n q3) X.env) :: starEach [] X.env := by rfl)
    (hpl : (backTo pos (starEach [.Tuple [.Name T1 q1, .Name T2 q2] n q3] X.env)).any (·.1) = false := by rfl) :
    Jd X M (.Call (.Name "isinstance" p) [a, .Tuple [.Name T1 q1, .Name T2 q2] n q3] [] pos) σ H (.bool (k1 || k2)) := fun al H1 y Q q =>
  leW (pe_callB call_isiT hg hm (by decide +kernel) (pa_cons pe_W (pa_cons (pe_tup (pa_cons (pe_bltn (v := .ty t1) hgT1 hT1 hv1 rfl hn1 hd1) (pa_cons (pe_bltn (v := .ty t2) hgT2 hT2 hv2 rfl hn2 hd2) pa_nil hs2) hs1)) pa_nil hs3) hs) (by decide) (by decide) hs hpl) (ha al H1 y _ fun v H2 z r =>
    ⟨sz_of (by simp), fun c hc => ⟨v, c, [.ty t1, .ty t2], .type (tyD d), [.type t1, .type t2], k1 || k2, rfl, upd_same, .cons (.ty t1) (.cons (.ty t2) .nil), tyX_of ((r.ex (hid_ex (Ex.new hc))).ex hid_le), by
      refine kitAny_cons (kit_ty hk1) (fun h => ?_) (fun h => by rw [h]; rfl)
      rw [h, Bool.false_or]
      refine kitAny_cons (kit_ty hk2) (fun h2 => ?_) (fun h2 => h2)
      rw [h2]; rfl, q _ _ (z.trans (Ex.new hc)) (.bl _)⟩⟩)
end
mutual
/-- how many data stand in one -/
def sz : D → Nat
  | .list xs => szs xs + 1
  | .tuple xs => szs xs + 1
  | _ => 1
def szs : List D → Nat
  | [] => 0
  | x :: xs => sz x + szs xs
end
theorem sz_pos (d : D) : 0 < sz d := by cases d <;> simp [sz]
theorem szs_app : ∀ xs ys : List D, szs (xs ++ ys) = szs xs + szs ys
  | [], _ => by simp [szs]
  | x :: xs, ys => by simp only [List.cons_append, szs, szs_app xs ys]; omega
theorem szs_len : ∀ xs : List D, xs.length ≤ szs xs
  | [] => Nat.le_refl _
  | x :: xs => by have := szs_len xs; have := sz_pos x; simp only [List.length_cons, szs]; omega
theorem zip_same : ∀ xs : List D, zipD xs xs = xs.map fun x => .tuple [x, x]
  | [] => rfl
  | x :: xs => by simp [zipD, zip_same xs]
end J

set_option maxHeartbeats 4000000
/-! J18: calls whose arguments are made with effects; keyword calls. -/
namespace J
open PySem PySem.Spec PyProof.Rows L2 Evl RZ
section
variable {X : Cx} {B H : Hp} {M M0 : List Addr} {ρ : Ro} {μ : Mu} {σ : L2.St} {pos p : Pos} {a b c e : Expr} {es : List Expr} {k n : Nat} {x : Str} {ps : List Str} {R : List D → D → Prop} {Fl : List D → Value → Prop} {ds : List D} {d : D} {vs : List V} {Q : VK} {rest A C : List Stmt} {D' : Ends}
theorem jd_callE (F : Fd CX0 X.prog X.w X.K X.mg X.base k x ps (spD X.K n R)) (hr : Room k X.A) (ha : tA X (e :: es) σ H fun vs H2 => spD X.K n R vs H2 Q E0) (hg : Gl X x := by rfl) (hdb : (x == ("__debug__" : Str)) = false := by decide)
    (he : starEach (e :: es) X.env = (false, eval e X.env) :: starEach es X.env := by rfl) (hpl : (backTo pos (starEach es X.env)).any (·.1) = false := by rfl) : tW X (.Call (.Name x p) (e :: es) [] pos) σ H Q := by
  obtain ⟨f, fd, hm, hk, hb, ok⟩ := F.ex
  refine leW (pe_call (E := E0) ok hr hg hm hk hb .nil pass0 pa_A hdb he hpl) ?_
  have e : (fun vs H2 => spD X.K n R vs H2 Q E0) = fun vs H1 => spD X.K n R (vs ++ []) H1 Q E0 := by funext vs H2; rw [List.append_nil]
  rw [e] at ha
  exact ha
theorem spd_in (S : Sy X.K B M0 ρ μ σ H) (hv : DpAll X.K (hid (adr M0 μ) H) vs ds) (hl : ds.length = n) (hR : R ds d) (k : ∀ v H3, Sy X.K B M0 ρ μ σ H3 → Dp X.K (hid (adr M0 μ) H3) v d → Q v H3) : spD X.K n R vs H Q E0 :=
  ⟨adr M0 μ, ds, d, hl, S.all, hv, hR, fun v H3 x p => k v H3 (S.ex x) p⟩
theorem tB_if (h : tT X c σ H fun k H' => if k = true then tB X A { D' with nx := tB X rest D' } σ H' else tB X C { D' with nx := tB X rest D' } σ H') : tB X (.If c A C pos :: rest) D' σ H := tB_cons (ps_if pt_T pss_B pss_B) h
theorem tT_not {Q : Bool → Hp → Prop} (h : tT X a σ H fun k H' => Q (!k) H') : tT X (.UnaryOp .Not a pos) σ H Q := leT (pt_not pt_T) h
theorem tT_or {Q : Bool → Hp → Prop} (h : tT X a σ H fun k H' => if k = true then Q true H' else tT X b σ H' Q) : tT X (.BoolOp .Or [a, b] pos) σ H Q := leT (pw_or pt_T (pw_or1 pt_T)).pt h
theorem tT_val {Q : Bool → Hp → Prop} (h : tW X a σ H fun v H' => ∃ k, v = .bl k ∧ Q k H') (he : ∀ whole, isTrue a X.env whole = (do let v ← whole; standAt a.pos; holding [v] (truthy v)) := by intro _; rfl) : tT X a σ H Q := leT (pt_val pe_W he) h
theorem sy_parE (i j : Nat) {x y : Str} {px py pt : Pos} {kt k2 pt2} (h : tA X [a, b] σ H fun vs H' => ∃ v v2, vs = [v, v2] ∧ tB X rest D' ((σ.set i (some v)).set j (some v2)) H')
    (hc : X.calm = true) (hN : X.N.Nodup) (hij : i ≠ j) (hw : swappedStores [.Tuple [.Name x px, .Name y py] kt pt] (.Tuple [a, b] k2 pt2) X.env = pure (some [x, y])) (hi : X.N[i]? = some x := by rfl) (hj : X.N[j]? = some y := by rfl)
    (hx : X.env.scope.names.lookup x = some .local := by rfl) (hy : X.env.scope.names.lookup y = some .local := by rfl) (hs : swapsWithSole [.Tuple [.Name x px, .Name y py] kt pt] (.Tuple [a, b] k2 pt2) pos.line X.env = pure false := by rfl) :
    tB X (.Assign [.Tuple [.Name x px, .Name y py] kt pt] (.Tuple [a, b] k2 pt2) pos :: rest) D' σ H :=
  tB_cons (ps_par hc hN hi hj hij hx hy pa_A hw hs) h
end
/-! ### f(k = e) -/
theorem kbn_of {K : PySem.W.Frag} {x q : Str} {params : Arguments} {body : List Stmt} {scope : Scope} {f : Addr} {fd : FuncData} {ps ks : List Str} {n : Nat} (F : FunD K x q params body scope [] [] f fd)
    (h : ∀ (kV doc pm : Value) (an : Option Addr) (cdv ct : Value) (us ws : List Value), us.length = n → ws.length = ks.length → bindArgs (PySem.W.fnOf x q params body scope .none kV doc pm an cdv ct) ⟨us, ks.zip ws⟩ = pure (ps.zip (us ++ ws))) : KBn K fd ps n ks (fun us ws => us ++ ws) (fun vs zs => vs ++ zs) := by
  obtain ⟨oc, od, dV, kV, doc, pm, an, cdv, ct, osl, rfl, lk, hcd, hD, hK⟩ := F.ex
  rcases hD with ⟨_, rfl⟩ | ⟨e, _⟩
  · exact ⟨fun s us ws X l1 l2 => BindsTo.of_looks fun M => PySem.W.Looks.of_pure (h kV doc pm an cdv ct us ws l1 l2), fun r1 r2 => paired_app r1 r2⟩
  · exact absurd rfl e
def tCallK0 (m : Nat) (sp : Sp) (gV : List V → List V → List V) (E : XK) (tk : TA) : TE := fun σ H Q => tk σ H fun zs H2 => zs.length = m ∧ sp (gV [] zs) H2 Q E
section
variable {X : Cx} {CX : CXT} {k n : Nat} {f C : Addr} {fd : FuncData} {ps ks : List Str} {sp : Sp} {E : XK} {x : Str} {p pos : Pos} {e : Expr} {kws : List Keyword} {tk : TA} {g : List Value → List Value → List Value} {gV : List V → List V → List V}
theorem pe_callK0 (F : FnOk X.prog X.w X.K X.mg X.base CX k f fd ps sp) (hr : Room k X.A) (hg : Gl X x) (hm : X.mg x = some (.ref f)) (hk : PySem.W.keepIn X.K (.ref f) = true) (hb : KBn X.K fd ps 0 ks g gV) (hx : Passes CX X E) (hkw : PK X kws tk)
    (hall : (backToKw pos (keywordEach kws X.env)).all (·.1.isSome) = true := by rfl) (hks : (backToKw pos (keywordEach kws X.env)).filterMap (·.1) = ks := by rfl) (hdb : (x == ("__debug__" : Str)) = false := by decide)
    (hpl : ((backTo pos (starEach [] X.env)).any (·.1) || (backToKw pos (keywordEach kws X.env)).any (·.1.isNone)) = false := by rfl) :
    PE X (.Call (.Name x p) [] kws pos) (tCallK0 ks.length sp gV E tk) := by
  refine ⟨fun pins s σ H Q I h => ?_⟩
  refine wpAny_Call_Name_kw (ld_glob I hg hm ?_ hdb)
  refine PySem.W.callWith_KW0 (h₀ := X.base) I.ok.mod.kin hk hall ?_ hpl
  refine thn (hkw.run pos pins s σ H _ I h) fun ws s2 ⟨zs, H2, I2, rz, l2, q2⟩ => ⟨I2.kIn, ?_⟩
  rw [hks]
  exact run_fnN (us := []) (vs := []) F hr hb hx I2 .nil rz rfl l2 q2
end
section
variable {X : Cx} {B H : Hp} {M M0 : List Addr} {ρ : Ro} {μ : Mu} {σ : L2.St} {pos p kpos : Pos} {e : Expr} {k : Nat} {x nm : Str} {R : List D → D → Prop} {Fl : List D → Value → Prop} {d d' : D} {f C : Addr} {fd : FuncData} {Q : VK} {E : XK}
/-- f(nm = e), f of data, one parameter -/
theorem jd_callXK (ok : FnOk X.prog X.w X.K X.mg X.base (CX X.prog X.w) k f fd [nm] (spX X.K 1 R Fl)) (hm : X.mg x = some (.ref f)) (hk : PySem.W.keepIn X.K (.ref f) = true) (hb : KBn X.K fd [nm] 0 [nm] (fun us ws => us ++ ws) (fun vs zs => vs ++ zs)) (hr : Room k X.A) (ha : Jd X M e σ H d) (hR : R [d] d') (hg : Gl X x := by rfl) (hdb : (x == ("__debug__" : Str)) = false := by decide)
    (hall : (backToKw pos (keywordEach [⟨some nm, e, kpos⟩] X.env)).all (·.1.isSome) = true := by rfl) (hks : (backToKw pos (keywordEach [⟨some nm, e, kpos⟩] X.env)).filterMap (·.1) = [nm] := by rfl)
    (hpl : ((backTo pos (starEach [] X.env)).any (·.1) || (backToKw pos (keywordEach [⟨some nm, e, kpos⟩] X.env)).any (·.1.isNone)) = false := by rfl) : Jd X M (.Call (.Name x p) [] [⟨some nm, e, kpos⟩] pos) σ H d' := fun al H1 y Q q =>
  leW (pe_callK0 (E := E0) ok hr hg hm hk hb passE0 (pk_cons pe_W pk_nil) hall hks hdb hpl) (ha al H1 y _ fun v H2 z r => ⟨rfl, M, [d], rfl, (al.ex y).ex z, .cons r .nil, .inl ⟨d', hR, fun v H3 u t => q v H3 (z.trans u) t⟩⟩)
/-- C(nm = e) -/
theorem jm_makeK1 {ps : List Str} {Pre : List Sv → Mu → Prop} {Rm : List Sv → Mu → Sv → Mu → Prop} {Fm : List Sv → Mu → Value → Prop} {CX : CXT} {s : Sv} (S : Sy X.K B M0 ρ μ σ H) (Mc : Mk X.K C f) (F : FnOk X.prog X.w X.K X.mg X.base CX k f fd ps (spM X.K 2 Pre Rm Fm)) (hb : KBn X.K fd ps 1 [nm] (fun us ws => us ++ ws) (fun vs zs => vs ++ zs)) (hr : Room (k + 1) X.A) (hm : X.mg x = some (.ref C)) (hx : Passes CX X E)
    (ha : Js X (adr M0 μ) e σ H s) (hp : ∀ x0 dx, Pre [.val (.ref x0), s] [(x0, .ins C dx [])]) (hR : ∀ ss' μ' s μ'', Rm ss' μ' s μ'' → s = .dat .none)
    (kk : ∀ x0 dx μ' H', Rm [.val (.ref x0), s] [(x0, .ins C dx [])] (.dat .none) μ' → Sy X.K B M0 ρ (μ' ++ μ) σ H' → Q (.ref x0) H') (kE : ∀ x0 dx cls H', Fm [.val (.ref x0), s] [(x0, .ins C dx [])] cls → Ex H H' → E cls none H') (hg : Gl X x := by rfl)
    (hdb : (x == ("__debug__" : Str)) = false := by decide) (hall : (backToKw pos (keywordEach [⟨some nm, e, kpos⟩] X.env)).all (·.1.isSome) = true := by rfl) (hks : (backToKw pos (keywordEach [⟨some nm, e, kpos⟩] X.env)).filterMap (·.1) = [nm] := by rfl)
    (hpl : ((backTo pos (starEach [] X.env)).any (·.1) || (backToKw pos (keywordEach [⟨some nm, e, kpos⟩] X.env)).any (·.1.isNone)) = false := by rfl) : tW X (.Call (.Name x p) [] [⟨some nm, e, kpos⟩] pos) σ H Q :=
  leW (pe_makeK0 Mc F hr hg hm hb hx (pk_cons pe_W pk_nil) hall hks hdb hpl) (S.evS ha fun v H2 S2 x2 pv => ⟨rfl, rfl, fun x0 dx h1 h2 h3 => by
    exact make_core (ss := [s]) S2 (.cons pv .nil) rfl hp hR kk (fun x0 dx cls H' hF x => kE x0 dx cls H' hF (x2.trans x)) x0 dx h1 h2 h3⟩)
end
end J

set_option maxHeartbeats 4000000
/-! J19: the law's own def. -/
namespace J
open PySem PySem.Spec PyProof.Rows L2 Evl RZ LamX
section
variable {X : Cx}
theorem jm_caughtP {k : Nat} {x a e n f : Str} {CS g c P : Addr} {st : Stmt} {fd : FuncData} {params : Arguments} {body : Expr} {scope : Scope} {p lpos pos : Pos} {j : Nat} {p0 p1 p2 p3 p4 p5 p6 p7 p8 p9 p10 p11 p12 p13 : Pos} {ρ : Ro} {μ : Mu} {σ : L2.St} {H : Hp} {Q : VK}
    (S : Sy X.K (fun _ => none) [] ρ ((P, .tab (X.env.qual ++ "<lambda>")) :: μ) σ H) (hmu : ∀ p ∈ μ, noTab p.2)
    (F : FunD X.K x x (defArgs st) [.Assign [.Name f p0] (.Constant .none j p1) p2, .Try [.Expr (.Call (.Name a p3) [] [] p4) p5] [.ExceptHandler (some (.Name e p6)) (some n) [.Assign [.Name f p7] (.Name n p8) p9] p10] [] [] p11, .Return (some (.Name f p12)) p13] (defScope st) [] [] g fd) (hm : X.mg x = some (.ref g))
    (hbi : ∀ (kV doc pm : Value) (an : Option Addr) (cdv ct : Value) (us : List Value), us.length = [a].length → bindArgs (PySem.W.fnOf x x (defArgs st) [.Assign [.Name f p0] (.Constant .none j p1) p2, .Try [.Expr (.Call (.Name a p3) [] [] p4) p5] [.ExceptHandler (some (.Name e p6)) (some n) [.Assign [.Name f p7] (.Name n p8) p9] p10] [] [] p11, .Return (some (.Name f p12)) p13] (defScope st) .none kV doc pm an cdv ct) ⟨us, []⟩ = pure ([a].zip us))
    (Sg : FnScope [a, f, n] [a] (defScope st)) (hva : Vis (defScope st) a) (hge : (defScope st).names.lookup e = some .globalImplicit) (hme : X.mg e = some (.ref CS)) (hde : (e == ("__debug__" : Str)) = false)
    (hlf : (defScope st).names.lookup f = some .local) (hln : (defScope st).names.lookup n = some .local) (hdf : (f == ("__debug__" : Str)) = false) (hcf : (f == ("__classdict__" : Str)) = false) (hdn : (n == ("__debug__" : Str)) = false) (hcn : (n == ("__classdict__" : Str)) = false)
    (TB : TabB X.base X.mg c P) (hcode : X.env.code = .ref c) (hr : Room (k + 2) X.A) (L : LamS X.env.scope scope)
    (Pc : Value → Prop) (hbody : ∀ (A : Around) (outer : List Env) (s : Shared) (H0 : Hp) (f' c' : Addr) (H1 : Hp) (E : XK), Room k (A.deeper (lamEnv X scope s.heap.objs.size f' c')) → Sy X.K (fun _ => none) [] ρ ((P, .tab (X.env.qual ++ "<lambda>")) :: μ) σ H1 →
      (∀ cls H', Pc cls → PySem.W.exmOne X.K cls (.ref CS) = some true → Sy X.K (fun _ => none) [] ρ ((P, .tab (X.env.qual ++ "<lambda>")) :: μ) σ H' → E cls none H') → tW (lamCx X A outer s H0 E scope f' c') body σ H1 (fun _ H' => Q .non H'))
    (hQ : ∀ cls v H', Pc cls → PySem.W.exmOne X.K cls (.ref CS) = some true → Sy X.K (fun _ => none) [] ρ ((P, .tab (X.env.qual ++ "<lambda>")) :: μ) σ H' → (Sv.exc cls).holds X.K (hid (adr [] ((P, .tab (X.env.qual ++ "<lambda>")) :: μ)) H') v → Q v H')
    (hg : Gl X x := by rfl) (hdef : defaultsOf params X.env = ([], []) := by rfl) (hbind : ∀ (q : Str) (cl : List (Str × Addr)) (pm cv ctv : Value), bindArgs (PySem.W.kla_fn "<lambda>" q params body scope cl pm cv ctv) ⟨[], []⟩ = pure [] := by intros; rfl)
    (hdb : (x == ("__debug__" : Str)) = false := by decide) (hd : (a == ("__debug__" : Str)) = false := by decide) (hcd : (a == ("__classdict__" : Str)) = false := by decide) : tW X (.Call (.Name x p) [.Lambda params body scope lpos] [] pos) σ H Q := by
  have hb := F.bindsN (ps := [a]) hbi
  obtain ⟨oc, od, dV, kV, doc, pm, an, cdv, ct, osl, efd, lk, hcg, _, _⟩ := F.ex
  subst efd
  refine leW (pe_lamcall (T := [(P, X.env.qual ++ "<lambda>")]) (TT := TCaught X.K CS) (t := tLm X scope body k) hg hm F.kp lk hcg hb Sg rfl hva
    (caught_gives Sg.nd hge hme hde hlf hln hdf hcf hdn hcn) TB hcode List.mem_cons_self (fun p hp _ => by rw [List.mem_singleton.mp hp]) hr L hdef hbind (fun A outer s H0 E f' c' hr' => ⟨fun pins s' σ' H' Q' I h => h A outer s H0 f' c' hr' pins s' I⟩) hdb hd hcd) ⟨S.tabs, fun H1 eN T1 => ?_⟩
  have S1 := S.tabbed hmu eN T1
  intro A outer s H0 f' c' hr'
  refine tW_mono (hbody A outer s H0 f' c' H1 _ hr' S1 fun cls H' hc he S' => ?_) fun v H' q => ⟨.non, rfl, q⟩
  refine ⟨true, he, fun _ ad ha => hQ cls (.ref ad) _ hc he (S'.ex (Ex.new ha)) ⟨ad, rfl, ?_⟩, fun z => by cases z⟩
  rw [hid_out (S'.all.out ha)]
  exact upd_same
end
/-- for i in range(n), over a ground of nothing -/
theorem sy_forR {X : Cx} {B H : Hp} {M0 : List Addr} {ρ : Ro} {μ : Mu} {σ : L2.St} {pos p ppos : Pos} {tg a : Expr} {body rest : List Stmt} {D' : Ends} {js : List Nat} {n : Int} (S : Sy X.K B M0 ρ μ σ H) (hm : X.mg "range" = none) (h : Jd X (adr M0 μ) a σ H (.int n)) (hn : -(2 ^ 62) ≤ n ∧ n < 2 ^ 62) (f : D → Ro → Ro) (hg : ∀ d ρ', Jg X tg js d ρ' (f d ρ')) (I : Nat → Ro → Mu → Prop) (h0 : I 0 ρ μ)
    (hs : ∀ (i : Nat) ρ' μ' σ' H', i < n.toNat → I i ρ' μ' → Sy X.K B M0 (f (.int i) ρ') μ' σ' H' → tB X body ⟨fun σ2 H2 => ∃ ρ2 μ2, I (i + 1) ρ2 μ2 ∧ Sy X.K B M0 ρ2 μ2 σ2 H2, D'.rt, tB X rest D', fun σ2 H2 => ∃ ρ2 μ2, I (i + 1) ρ2 μ2 ∧ Sy X.K B M0 ρ2 μ2 σ2 H2⟩ σ' H')
    (hd : ∀ ρ' μ' σ' H', I n.toNat ρ' μ' → Sy X.K B M0 ρ' μ' σ' H' → tB X rest D' σ' H')
    (hp : PassesOwn (model X.prog X.w) X.A X.env X.xe) (hc : X.calm = true) (hgR : Gl X "range" := by rfl) (hs1 : starEach [a] X.env = [(false, eval a X.env)] := by rfl) (hfs : ∀ x, foldedSetIterable (.Call (.Name "range" p) [a] [] ppos) X.env x = pure x := by intro _; rfl) :
    tB X (.For tg (.Call (.Name "range" p) [a] [] ppos) body [] pos :: rest) D' σ H :=
  tB_cons (ps_for hp hc (pi_range1 hgR hm (pa_cons pe_W pa_nil hs1) hs1) pg_G pss_B hfs) (S.ev h fun v H2 S2 x2 p2 => ⟨n, by rw [dInt p2], hn.1, hn.2, by
    refine for_it walk_range (fun i σ' H' => ∃ ρ' μ', I i ρ' μ' ∧ Sy X.K B M0 ρ' μ' σ' H') ⟨ρ, μ, h0, S2⟩ (fun i σ' H' hi _ => trivial) (fun i x σ' H' H3 hi ⟨ρ', μ', hI, S'⟩ y => ?_) fun σ' H' ⟨ρ', μ', hI, S'⟩ => hd ρ' μ' σ' H' hI S'
    obtain ⟨rfl, e⟩ := y
    have e : x = V.int (0 + (i : Int)) := e
    rw [e, Int.zero_add]
    exact hg (.int i) ρ' _ _ _ _ _ _ S' (.int _) _ fun σ4 S4 _ _ => hs i ρ' μ' σ4 _ hi hI S4⟩)
/-- xs[:n] of a list -/
theorem jd_slLTo {X : Cx} {M : List Addr} {σ : L2.St} {H : Hp} {a b : Expr} {ds : List D} {i : Int} {n : Nat} {p2 pos : Pos} (ha : Jd X M a σ H (.list ds)) (hb : Jd X M b σ H (.int i)) (hi : i = (n : Int)) : Jd X M (.Subscript a (.Slice none (some b) none p2) pos) σ H (.list (ds.take n)) := fun al H1 x Q q =>
  leW (pe_slice sl_list pe_W po_none (po_some pe_W)) (ha al H1 x _ fun v H2 y p => hb al H2 (x.trans y) _ fun w H3 z r => by
    obtain ⟨t, xs, e1, e2, e3⟩ := dLst p
    have e3' := e3.ex (hid_ex (M := M) z)
    have hl := e3.len
    refine ⟨i, dInt r, t, xs, e1, ex_l hid_le (ex_l (hid_ex z) e2), fun c hc => ?_⟩
    have up := hid_ex (M := M) (Ex.new (o := .lst (L2.cutV xs none (some i))) hc)
    refine q _ _ ((y.trans z).trans (Ex.new hc)) (.lst (SqL.of ((al.ex ((x.trans y).trans z)).newEx hc)) ?_)
    have e : L2.cutV xs none (some i) = xs.take n := by
      unfold L2.cutV
      rw [hi, HT.sIx_none, HT.sIx_nat, List.drop_zero, Nat.sub_zero, hl]
      by_cases h : n ≤ ds.length
      · rw [Nat.min_eq_left h]
      · rw [Nat.min_eq_right (by omega), List.take_of_length_le (by omega), List.take_of_length_le (by omega)]
    rw [e] at up ⊢
    exact dpTake n (e3'.ex up))
/-! ### the law's def -/
/-- the script in, True out; P: the law's table of code objects, empty -/
def spLaw (K : PySem.W.Frag) (P : Addr) (n : Nat) : Sp := fun vs H Q _ => ∃ (a : Addr) (ns : List Int), vs = [.ref a] ∧ ns.length ≤ n ∧ SqL K H a (ns.map V.int) ∧ H P = some (.tbl #[]) ∧ ∀ H', Q (.bl true) H'
theorem ok_law {P : Program} {w : World} {K : PySem.W.Frag} {mg : Str → Option Value} {base : Heap} {q : Str} {st : Stmt} {f : Addr} {fd : FuncData} {N : List Str} {s0 : Str} {k n : Nat} {x : Str} (F : FunD K x q (defArgs st) (defBody st) (defScope st) [] [] f fd) (S : FnScope N [s0] (defScope st)) (TP : Addr) (TBh : ∀ c, fd.code = .ref c → TabB base mg c TP)
    (body : ∀ (c : Addr) (A : Around) (outer : List Env) (s : Shared) (H : Hp) (E : XK) (a : Addr) (ns : List Int) (D' : Ends), TabB base mg c TP → Room k (bodyX P w K mg base N q st f (.ref c) A outer s H E).A → ns.length ≤ n →
      Sy K (fun _ => none) [] (some (Sv.dat (.list (ns.map PyData.int))) :: List.replicate (N.length - 1) none) [(TP, .tab ((bodyX P w K mg base N q st f (.ref c) A outer s H E).env.qual ++ "<lambda>"))] (L2.start N [.ref a]) H →
      (∀ H', D'.rt (.bl true) H') → tB (bodyX P w K mg base N q st f (.ref c) A outer s H E) (defBody st) D' (L2.start N [.ref a]) H) : FnOk P w K mg base CX0 (k + 1) f fd [s0] (spLaw K TP n) := by
  obtain ⟨oc, od, dV, kV, doc, pm, an, cdv, ct, osl, efd, lk, hcg, _, _⟩ := F.ex
  subst efd
  obtain ⟨c, rfl⟩ := He.codeIn_ref hcg
  refine fn_of lk hcg S (fun vs H Q E h => ?_) (fun A outer s H vs Q E hr h => ?_)
  · obtain ⟨a, ns, rfl, _⟩ := h
    rfl
  · obtain ⟨a, ns, rfl, hl, hS, hP, hQ⟩ := h
    refine ⟨_, PSs.nox pss_B, body c A outer s H E a ns _ (TBh c rfl) hr hl ?_ fun H' => hQ H'⟩
    have hS' : SqL K (hid (adr [] [(TP, .tab ((bodyX P w K mg base N q st f (.ref c) A outer s H E).env.qual ++ "<lambda>"))]) H) a (ns.map V.int) := by
      rcases hS with (h | ⟨o, h⟩) | h
      · refine .inl (.inl ?_)
        rw [hid_out]
        · exact h
        · intro z
          have z : a = TP := by simpa [adr] using z
          rw [z, hP] at h; cases h
      · refine .inl (.inr ⟨o, ?_⟩)
        rw [hid_out]
        · exact h
        · intro z
          have z : a = TP := by simpa [adr] using z
          rw [z, hP] at h; cases h
      · exact .inr h
    refine ⟨fun i sv hi => ?_, by unfold L2.start; simp, fun p hp => ?_, Al.nil, (fun _ _ z => by cases z), fun _ _ => rfl, List.nodup_cons.mpr ⟨by simp, List.nodup_nil⟩, fun p _ z => by cases z⟩
    · match i, hi with
      | 0, hi =>
        cases hi
        exact ⟨.ref a, rfl, .lst hS' (dInts ns)⟩
      | i + 1, hi =>
        rw [List.getElem?_cons_succ, List.getElem?_replicate] at hi
        split at hi <;> cases hi
    · obtain rfl := List.mem_singleton.mp hp
      exact ⟨#[], hP, True.intro, fun pos cv z => by
        have z : codeAmong pos [] = some cv := z
        simp [codeAmong] at z⟩
end J

set_option maxHeartbeats 4000000
/-! J20: zip of any two of lists and tuples. -/
namespace J
open PySem PySem.Spec PyProof.Rows L2 Evl RZ
/-- b: a tuple, else a list -/
def SqB (b : Bool) (K : PySem.W.Frag) (H : Hp) (a : Addr) (xs : List V) : Prop := match b with
  | true => SqT K H a xs
  | false => SqL K H a xs
def ItB (b : Bool) (h : Heap) (it l : Addr) (i : Nat) : Prop := match b with
  | true => h.IsTupleIter it l i
  | false => h.IsListIter it l i
def SeqB (b : Bool) (h : Heap) (l : Addr) (items : Array Value) : Prop := match b with
  | true => h.IsTuple l items
  | false => h.IsList l items
theorem drawsB {prog : Program} {w : World} {A : Around} (b : Bool) (hh : A.handled = none) (it l : Addr) (hne : l ≠ it) (items : Array Value) : Draws prog w A it [it, l] items.size (fun i v => items[i]? = some v) (fun i h => ItB b h it l i ∧ SeqB b h l items) := by
  cases b with
  | true => exact Draws.tuple hh it l hne items
  | false => exact Draws.list hh it l hne items
theorem itB_obj {b : Bool} {h : Heap} {it l : Addr} {i : Nat} (p : ItB b h it l i) : ∃ o, h.get? it = some o ∧ ∀ v, o.data ≠ .cell v := by
  cases b with
  | true => obtain ⟨o, e, _, d⟩ := (show h.IsTupleIter it l i from p); exact ⟨o, e, fun v q => by rw [d] at q; cases q⟩
  | false => obtain ⟨o, e, _, d⟩ := (show h.IsListIter it l i from p); exact ⟨o, e, fun v q => by rw [d] at q; cases q⟩
theorem itB_at {b : Bool} {h h' : Heap} {it l : Addr} {i : Nat} (p : ItB b h it l i) (k : ∀ o, h.get? it = some o → h'.get? it = some o) : ItB b h' it l i := by
  cases b with
  | true => exact (show h.IsTupleIter it l i from p).at k
  | false => exact (show h.IsListIter it l i from p).at k
theorem sqB_read {b : Bool} {X : Cx} {pins : List (Addr × Obj)} {σ : L2.St} {H : Hp} {s : Shared} (I : Inv X pins σ H s) {a : Addr} {xs : List V} (h : SqB b X.K H a xs) : ∃ its : List Value, Vals xs its ∧ SeqB b s.heap a its.toArray ∧ a < s.heap.objs.size := by
  cases b with
  | true =>
    obtain ⟨its, rv, p, _⟩ := I.tuple h
    exact ⟨its, rv, isTuple_of p, by obtain ⟨o, ho, _⟩ := p; exact Heap.lt_size ho⟩
  | false =>
    obtain ⟨its, rv, p, _⟩ := I.list h
    exact ⟨its, rv, p.isList, p.lt⟩
theorem sqB_inj {b : Bool} {X : Cx} {pins : List (Addr × Obj)} {σ : L2.St} {H : Hp} {s : Shared} (I : Inv X pins σ H s) {a : Addr} {xs ys : List V} (h : SqB b X.K H a xs) (h2 : SqB b X.K H a ys) : xs = ys := by
  cases b with
  | true => exact I.tuple_inj h h2
  | false => exact I.list_inj h h2
/-- two of them, the items in new pairs -/
def ItzB (b1 b2 : Bool) (K : PySem.W.Frag) (a b : Addr) : It :=
  ⟨fun i H => ∃ (xs ys : List V) (x y : V), SqB b1 K H a xs ∧ SqB b2 K H b ys ∧ xs[i]? = some x ∧ ys[i]? = some y,
    fun i H v H' => ∃ T x y, v = .ref T ∧ H T = none ∧ H' = upd H T (.tup [x, y]) ∧ (∀ xs, SqB b1 K H a xs → xs[i]? = some x) ∧ ∀ ys, SqB b2 K H b ys → ys[i]? = some y,
    fun i H => ∃ xs ys : List V, SqB b1 K H a xs ∧ SqB b2 K H b ys ∧ i ≤ xs.length ∧ i ≤ ys.length ∧ (i = xs.length ∨ i = ys.length)⟩
theorem turn_zipB {P : Program} {w : World} {K : PySem.W.Frag} {elts : List Expr} {kk : Nat} {tpos : Pos} {b1 b2 : Bool} {a b z TI TO i1 i2 : Addr} (D : ZipSep2 z TI TO i1 i2 [i1, a] [i2, b]) (na : a ≠ i1) (nb : b ≠ i2) :
    Turn P w K (.Tuple elts kk tpos) (ItzB b1 b2 K a b) [z, TI, TO, i1, i2] z (fun i h => IsZip h z TI TO .none ∧ IsTupOf2 h TI (.ref i1) (.ref i2) ∧ (∃ x y, IsTupOf2 h TO x y) ∧ ItB b1 h i1 a i ∧ ItB b2 h i2 b i) where
  mem := by simp
  obj := fun i h st c hc => by
    obtain ⟨hz, hTI, ⟨x, y, hTO⟩, h1, h2⟩ := st
    simp only [List.mem_cons, List.not_mem_nil, or_false] at hc
    rcases hc with rfl | rfl | rfl | rfl | rfl
    · exact ⟨_, hz, fun v q => nomatch q⟩
    · exact ⟨_, hTI, fun v q => nomatch q⟩
    · exact ⟨_, hTO, fun v q => nomatch q⟩
    · exact itB_obj h1
    · exact itB_obj h2
  keep := fun i h h' st k => by
    obtain ⟨hz, hTI, ⟨x, y, hTO⟩, h1, h2⟩ := st
    exact ⟨k z (by simp) _ hz, k TI (by simp) _ hTI, ⟨x, y, k TO (by simp) _ hTO⟩, itB_at h1 fun o q => k i1 (by simp) o q, itB_at h2 fun o q => k i2 (by simp) o q⟩
  item := by
    intro X hP hw hK hc i pins s σ H E I hf st hg
    subst hP hw hK
    obtain ⟨hz, hTI, ⟨x0, y0, hTO⟩, h1, h2⟩ := st
    obtain ⟨xs, ys, x, y, hqx, hqy, hx, hy⟩ := hg
    obtain ⟨its, rv, p, pl⟩ := sqB_read I hqx
    obtain ⟨its2, rv2, p2, pl2⟩ := sqB_read I hqy
    obtain ⟨u, hu, ru⟩ := rv.get hx
    obtain ⟨u2, hu2, ru2⟩ := rv2.get hy
    have hzl : z < s.heap.objs.size := Heap.lt_size hz
    have l1 : i < its.toArray.size := by have := (List.getElem?_eq_some_iff.mp hu).1; simpa using this
    have l2 : i < its2.toArray.size := by have := (List.getElem?_eq_some_iff.mp hu2).1; simpa using this
    refine wpAny_pyNext_zipD2_item D (drawsB b1 (A := X.A.in1) (I.ok.hd hc) i1 a na its.toArray) (drawsB b2 (A := X.A.in1) (I.ok.hd hc) i2 b nb its2.toArray) hz hTI hTO ⟨h1, p⟩ ⟨h2, p2⟩ l1 l2 fun x1 x2 h' tk e1 e2 z' TO' st1 st2 hT hsz hk => ?_
    have e1 : u = x1 := by
      have hu' : its.toArray[i]? = some u := by simpa using hu
      rw [hu'] at e1; exact Option.some.inj e1
    have e2 : u2 = x2 := by
      have hu' : its2.toArray[i]? = some u2 := by simpa using hu2
      rw [hu'] at e2; exact Option.some.inj e2
    subst e1 e2
    refine ⟨_, rfl, wpAny_letOwnedTupleGo_zip (s := { s with heap := h', toks := tk }) z' fun h'' z'' sb => ?_⟩
    have hT2 : h''.get? s.heap.objs.size = some { cls := .type "tuple", data := .seq #[u, u2] } := (sb.2 _ (Nat.ne_of_gt hzl)).trans hT
    have new : ObjOk X.prog X.w (upd H s.heap.objs.size (.tup [x, y])) h'' s.heap.objs.size (.tup [x, y]) :=
      ⟨by show 2 ≤ sizeLine; decide, [u, u2], .cons ru (.cons ru2 .nil), ⟨_, hT2, rfl, _, rfl⟩⟩
    have I1 : Inv X pins σ (upd H s.heap.objs.size (.tup [x, y])) { s with heap := h'', toks := tk } :=
      I.turnedNew (ch := [z, TI, TO, i1, i2]) (fun c o hb q => (sb.2 c (fun q' => hb (by simp [q']))).trans (hk c o (fun q' => hb (by simp [q'])) (fun q' => hb (by simp [q'])) (fun q' => hb (by simp [q'])) (fun q' => hb (by simp [q'])) q)) hf (Nat.le_refl _) new
    refine ⟨.ref s.heap.objs.size, _, I1, rfl, ⟨_, x, y, rfl, I.hok.fresh (Nat.le_refl _), rfl, fun l hl => by rw [sqB_inj I hl hqx]; exact hx, fun l hl => by rw [sqB_inj I hl hqy]; exact hy⟩, ⟨z'', ?_, ⟨u, u2, ?_⟩, ?_, ?_⟩, fun c hcm => ?_⟩
    · exact (sb.2 _ D.TIz).trans (hk _ _ D.TIz D.TITO D.TIi1 D.TIi2 hTI)
    · exact (sb.2 _ D.TOz).trans TO'
    · exact itB_at st1.1 fun o q => (sb.2 _ (Ne.symm D.zi1)).trans q
    · exact itB_at st2.1 fun o q => (sb.2 _ (Ne.symm D.zi2)).trans q
    · have hlt : c < s.heap.objs.size := by
        simp only [List.mem_cons, List.not_mem_nil, or_false] at hcm
        rcases hcm with rfl | rfl | rfl | rfl | rfl
        · exact hzl
        · exact Heap.lt_size hTI
        · exact Heap.lt_size hTO
        · obtain ⟨_, e, _⟩ := itB_obj h1; exact Heap.lt_size e
        · obtain ⟨_, e, _⟩ := itB_obj h2; exact Heap.lt_size e
      rw [upd_ne (Nat.ne_of_lt hlt)]
      exact (hf c hcm).1
  done := by
    intro X hP hw hK hc i pins s σ H E I hf st hg
    subst hP hw hK
    obtain ⟨hz, hTI, ⟨x0, y0, hTO⟩, h1, h2⟩ := st
    obtain ⟨xs, ys, hqx, hqy, m1, m2, hend⟩ := hg
    obtain ⟨its, rv, p, pl⟩ := sqB_read I hqx
    obtain ⟨its2, rv2, p2, pl2⟩ := sqB_read I hqy
    have l1 := rv.length
    have l2 := rv2.length
    exact wpAny_pyNext_zipD2_end D (drawsB b1 (A := X.A.in1) (I.ok.hd hc) i1 a na its.toArray) (drawsB b2 (A := X.A.in1) (I.ok.hd hc) i2 b nb its2.toArray) hz hTI hTO ⟨h1, p⟩ ⟨h2, p2⟩ (by simp; omega) (by simp; omega) (by simp; omega) fun h' tk hk => ⟨rfl, by
      obtain ⟨f0, f1, f2, f3, f4, f5⟩ := hf z (by simp)
      exact I.turnedL (t' := tk) (ch := [z, TI, TO, i1, i2]) (fun c o hb q => hk c o (fun q' => hb (by simp [q'])) (fun q' => hb (by simp [q'])) (fun q' => hb (by simp [q'])) (fun q' => hb (by simp [q'])) q) hf⟩
  self := fun A i s Q E st h => wpAny_pyIter_zip st.1 h
def iZipB (K : PySem.W.Frag) (ta : TA) : TI := fun σ H R => ta σ H fun vs H1 => ∃ b1 b2 a b xs ys, vs = [.ref a, .ref b] ∧ SqB b1 K H1 a xs ∧ SqB b2 K H1 b ys ∧ R (ItzB b1 b2 K a b) H1
def itO (b : Bool) (l : Addr) : Obj := match b with
  | true => { cls := .type "tuple_iterator", data := .fields #[.ref l, .int 0 0] }
  | false => { cls := .type "list_iterator", data := .fields #[.ref l, .int 0 0] }
theorem beginsB (b : Bool) (l : Addr) (items : Array Value) : Begins (.ref l) (itO b l) fun h => SeqB b h l items := by
  cases b with
  | true => exact begins_tuple l items
  | false => exact begins_list l items
theorem itB_new {b : Bool} {h : Heap} {it l : Addr} (e : h.get? it = some (itO b l)) : ItB b h it l 0 := by
  cases b with
  | true => exact ⟨_, e, rfl, rfl⟩
  | false => exact ⟨_, e, rfl, rfl⟩
theorem pi_zipB {X : Cx} {e e2 : Expr} {ta : TA} {p pos tpos : Pos} {elts : List Expr} {kk : Nat} (hg : Gl X "zip") (hm : X.mg "zip" = none) (ha : PA X [e, e2] ta)
    (hs : starEach [e, e2] X.env = (false, eval e X.env) :: starEach [e2] X.env := by rfl) (hpl : (backTo pos (starEach [e2] X.env)).any (·.1) = false := by rfl) :
    PI X (.Tuple elts kk tpos) (.Call (.Name "zip" p) [e, e2] [] pos) (iZipB X.K ta) := by
  refine ⟨fun pins s σ H R I h => ?_⟩
  refine Call_ (ld_blt I hg hm PyProof.Rows.boot_zip (PyProof.Rows.callWith_type1 (thn (ha.run pos pins s σ H _ I h) fun us s1 ⟨vs, H1, I1, r1, q1⟩ => ?_) hs hpl))
  obtain ⟨b1, b2, a, b, xs, ys, ex, hqx, hqy, q⟩ := q1
  subst ex
  cases r1 with
  | cons r rr =>
    cases rr with
    | cons r' rr =>
      cases rr
      cases r
      cases r'
      obtain ⟨its, rv, p1, pl1⟩ := sqB_read I1 hqx
      obtain ⟨its2, rv2, p2, pl2⟩ := sqB_read I1 hqy
      refine zip_begins2 (beginsB b1 a its.toArray) (beginsB b2 b its2.toArray) p1 p2 fun h' hz hTI hTO g1 g2 hsz hk => wpAny_pyIter_zip hz ?_
      have I2 : Inv X pins σ H1 { s1 with heap := h' } := I1.kept (t' := s1.toks) hk
      refine ⟨s1.heap.objs.size + 4, [s1.heap.objs.size + 4, s1.heap.objs.size + 2, s1.heap.objs.size + 3, s1.heap.objs.size, s1.heap.objs.size + 1], _, _, H1, rfl, I2, turn_zipB (zip_sep2 (N := s1.heap.objs.size) (fp1 := [a]) (fp2 := [b]) (fun c hc => by rw [List.mem_singleton.mp hc]; exact pl1) (fun c hc => by rw [List.mem_singleton.mp hc]; exact pl2)) (Nat.ne_of_lt pl1) (Nat.ne_of_lt (Nat.lt_succ_of_lt pl2)), ⟨hz, hTI, ⟨_, _, hTO⟩, itB_new g1, itB_new g2⟩, fun c hcm => ?_, q⟩
      have hle : s1.heap.objs.size ≤ c := by
        simp only [List.mem_cons, List.not_mem_nil, or_false] at hcm
        rcases hcm with rfl | rfl | rfl | rfl | rfl
        · exact Nat.le_add_right _ _
        · exact Nat.le_add_right _ _
        · exact Nat.le_add_right _ _
        · exact Nat.le_refl _
        · exact Nat.le_add_right _ _
      exact I1.fpOk hle (I1.hok.fresh hle)
theorem sqB_ex {b : Bool} {K : PySem.W.Frag} {H H' : Hp} {a : Addr} {xs : List V} (e : Ex H H') (h : SqB b K H a xs) : SqB b K H' a xs := by
  cases b with
  | true => exact ex_t e h
  | false => exact ex_l e h
theorem walk_zipB {K : PySem.W.Frag} {b1 b2 : Bool} {a b : Addr} {xs ys : List V} {n : Nat} (hn : n = min xs.length ys.length) : Walk (ItzB b1 b2 K a b) n (fun H => SqB b1 K H a xs ∧ SqB b2 K H b ys) (YPair (fun i => xs[i]?) (fun i => ys[i]?)) := by
  subst hn
  refine ⟨fun i _ hi q => ?_, fun _ q => ⟨xs, ys, q.1, q.2, by omega, by omega, by omega⟩, fun i H v H' _ q y => ?_⟩
  · have h1 : i < xs.length := by omega
    have h2 : i < ys.length := by omega
    exact ⟨xs, ys, xs[i], ys[i], q.1, q.2, by simp [h1], by simp [h2]⟩
  · obtain ⟨T, x, z, h1, h2, h3, h4, h5⟩ := y
    exact ⟨T, x, z, h1, h2, h3, h4 xs q.1, h5 ys q.2⟩
/-- a datum that is a list or a tuple of ds -/
def seqD (b : Bool) (ds : List D) : D := match b with
  | true => .tuple ds
  | false => .list ds
theorem dSeq {K : PySem.W.Frag} {H : Hp} {b : Bool} {v : V} {ds : List D} (h : Dp K H v (seqD b ds)) : ∃ a xs, v = .ref a ∧ SqB b K H a xs ∧ DpAll K H xs ds := by
  cases b with
  | true => exact dTup h
  | false => exact dLst h
theorem jw_zipB {X : Cx} {M : List Addr} {a b : Expr} {σ : L2.St} {H : Hp} {ds es : List D} {p pos : Pos} {b1 b2 : Bool} {elts : List Expr} {kk : Nat} {tpos : Pos} (hm : X.mg "zip" = none) (h : Jd X M a σ H (seqD b1 ds)) (h2 : Jd X M b σ H (seqD b2 es)) (hg : Gl X "zip" := by rfl) (hs : starEach [a, b] X.env = (false, eval a X.env) :: starEach [b] X.env := by rfl)
    (hs2 : starEach [b] X.env = (false, eval b X.env) :: starEach [] X.env := by rfl) (hpl : (backTo pos (starEach [b] X.env)).any (·.1) = false := by rfl) : Jw X M (.Tuple elts kk tpos) (.Call (.Name "zip" p) [a, b] [] pos) σ H (zipD ds es) := fun al H1 x R k =>
  leI (pi_zipB hg hm (pa_cons pe_W (pa_cons pe_W pa_nil hs2) hs) hs hpl) (h al H1 x _ fun v H2 y q => h2 al H2 (x.trans y) _ fun w H3 z r => by
    obtain ⟨t, xs, e1, e2, e3⟩ := dSeq q
    obtain ⟨u, ys, f1, f2, f3⟩ := dSeq r
    have e2' := sqB_ex (hid_ex (M := M) z) e2
    have e3' := e3.ex (hid_ex (M := M) z)
    exact ⟨b1, b2, t, u, xs, ys, by rw [e1, f1], sqB_ex hid_le e2', sqB_ex hid_le f2, k _ H3 (y.trans z) ⟨_, _, walk_zipB (by rw [zipD_len, e3.len, f3.len]), fun H4 g => ⟨sqB_ex g e2', sqB_ex g f2⟩, yl_pair (fun i d hd => e3'.get hd) (fun i d hd => f3.get hd)⟩⟩)
end J

set_option maxHeartbeats 4000000
/-! J21: a tuple turned round; more of lists that change; loops over what is made with effects; two keywords. -/
namespace J
open PySem PySem.Spec PyProof.Rows L2 Evl RZ
/-! ### t[::-1] -/
section
variable {prog : Program} {w : World} {A : Around} {E : Value → Shared → Prop} {s : Shared}
theorem rev_places (n : Nat) : Builtin.Slice.slicePlaces ((n : Int) - 1) (-1) (-1) = n := by
  unfold Builtin.Slice.slicePlaces
  have h1 : ¬ ((-1 : Int) > 0) := by decide
  have h2 : (-(-1) : Int) = 1 := by decide
  rw [if_neg h1, h2]
  simp only [Int.ediv_one]
  split <;> omega
theorem rev_pick (xs : Array Value) : ((List.range xs.size).filterMap fun (m : Nat) => xs[(((xs.size : Nat) : Int) - 1 + (m : Int) * (-1)).toNat]?).toArray = xs.toList.reverse.toArray := by
  congr 1
  refine List.ext_getElem? fun i => ?_
  have e : (List.range xs.size).filterMap (fun (m : Nat) => xs[(((xs.size : Nat) : Int) - 1 + (m : Int) * (-1)).toNat]?) = xs.toList.reverse := by
    have key : ∀ n, n ≤ xs.size → (List.range n).filterMap (fun (m : Nat) => xs[(((xs.size : Nat) : Int) - 1 + (m : Int) * (-1)).toNat]?) = xs.toList.reverse.take n := by
      intro n
      induction n with
      | zero => intro _; simp
      | succ n ih =>
        intro hn
        have hi : (((xs.size : Nat) : Int) - 1 + (n : Int) * (-1)).toNat = xs.size - 1 - n := by omega
        have hg : xs[xs.size - 1 - n]? = some (xs[xs.size - 1 - n]'(by omega)) := Array.getElem?_eq_getElem (by omega)
        rw [List.range_succ, List.filterMap_append, ih (by omega), List.take_add_one]
        congr 1
        rw [List.filterMap_cons, hi, hg]
        have hr : xs.toList.reverse[n]? = some (xs[xs.size - 1 - n]'(by omega)) := by
          rw [List.getElem?_reverse (by simpa using (by omega : n < xs.size))]
          simpa using hg
        rw [hr]
        rfl
    rw [key xs.size (Nat.le_refl _), List.take_of_length_le (by simp)]
  rw [e]
theorem getItem_tuple_rev {t sl : Addr} {items : Array Value} {tk : Tok} {Q : Value → Shared → Prop} (ht : IsTup s.heap t items) (hs : s.heap.IsSliceOf sl .none .none (.int (-1) tk))
    (h : Q (.ref s.heap.objs.size) { s with heap := s.heap.push { cls := .type "tuple", data := .seq items.toList.reverse.toArray } }) (hsz : items.size ≤ sizeLine) : wpAny (model prog w) A (getItem (.ref t) (.ref sl)) Q E s := by
  have hok : sizeOk (.seq items.toList.reverse.toArray) := by
    show items.toList.reverse.toArray.size ≤ sizeLine
    simpa using hsz
  obtain ⟨os, hos, hcs, hds⟩ := id hs
  have hTs : s.TypeIs (.ref sl) "slice" := ⟨os, hos, hcs⟩
  unfold getItem
  try with_reducible refine wpAny_holding ?_
  first | refine wpAny_bind (wpAny_pure ?_) | skip
  refine wpAny_bind (wpAny_sequenceKey ht.typeIs (by decide) ?_)
  refine wpAny_bind (wpAny_callSpecial?_slot (name := Str.ofString "__getitem__") ht.typeIs PyProof.Rows.slot_tuple_getitem
    (wpAny_call_entry PyProof.Rows.slot_tuple_getitem ht.typeIs entry_tuple_getitem ?_ (args_tuple_getitem _ _)))
  show wpAny _ _ (Builtin.Tuple.tupleItemsOf (.ref t) >>= _) _ _ s
  refine wpAny_bind (tupleItemsOf_ ht ?_)
  refine wpAny_bind (wpAny_typeOf hTs ?_)
  rw [if_pos (by decide)]
  refine wpAny_bind ?_
  unfold Builtin.Slice.sliceApplied Builtin.Slice.sliceFields
  refine wpAny_bind (wpAny_bind (wpAny_field hos hds (x := .none) rfl (wpAny_bind (wpAny_field hos hds (x := .none) rfl (wpAny_bind (wpAny_field hos hds (x := .int (-1) tk) rfl (wpAny_pure ?_)))))))
  refine wpAny_bind (slicePart_int ?_)
  show wpAny _ _ (if ((-1 : Int) == 0) = true then _ else _) _ _ s
  rw [if_neg (by decide)]
  refine wpAny_bind (slicePart_none (wpAny_bind (slicePart_none (wpAny_bind (wpAny_pure ?_)))))
  have ea : Builtin.Slice.sliceAdjust none none (-1) ((items.size : Nat) : Int) = (((items.size : Nat) : Int) - 1, -1) := by
    unfold Builtin.Slice.sliceAdjust
    simp
  show wpAny _ _ (match Builtin.Slice.sliceAdjust none none (-1) ((items.size : Nat) : Int) with | (lo, hi) => pure (lo, (-1 : Int), Builtin.Slice.slicePlaces lo hi (-1))) _ _ s
  rw [ea]
  show wpAny _ _ (pure (((items.size : Nat) : Int) - 1, (-1 : Int), Builtin.Slice.slicePlaces (((items.size : Nat) : Int) - 1) (-1) (-1))) _ _ s
  rw [rev_places]
  refine wpAny_pure ?_
  have hno : ¬ (((((items.size : Nat) : Int) - 1) == 0 && (-1 : Int) == 1 && items.size == items.size) = true) := by simp
  show wpAny _ _ (if ((((items.size : Nat) : Int) - 1) == 0 && (-1 : Int) == 1 && items.size == items.size) = true then _ else _) _ _ s
  rw [if_neg hno, rev_pick]
  first
    | exact wpAny_bind (m := Builtin.Tuple.tupleExact _) (wpAny_newObj_type (wpAny_pure ⟨_, rfl, wpAny_pure h⟩) hok)
    | exact wpAny_bind (m := Builtin.Tuple.tupleExact _) (wpAny_newObj_type (wpAny_bind (wpAny_pure (wpAny_pure ⟨_, rfl, wpAny_pure h⟩))) hok)
    | exact wpAny_bind (wpAny_bind (m := Builtin.Tuple.tupleExact _) (wpAny_newObj_type (wpAny_pure (wpAny_pure ⟨_, rfl, wpAny_pure h⟩)) hok))
    | exact wpAny_bind (wpAny_bind (m := Builtin.Tuple.tupleExact _) (wpAny_newObj_type (wpAny_pure ⟨_, rfl, wpAny_pure h⟩) hok))
end
section
variable {X : Cx} {B H : Hp} {M M0 : List Addr} {ρ : Ro} {μ : Mu} {σ : L2.St} {pos pos' apos p p1 p2 p3 : Pos} {a b c e o tg iter : Expr} {d : D} {ds es : List D} {rest body : List Stmt} {D' : Ends} {i j : Int} {js : List Nat} {ad : Addr} {n : Nat}
def tRevT (K : PySem.W.Frag) (te : TE) : TE := fun σ H Q => te σ H fun x H1 => ∃ a xs, x = .ref a ∧ SqT K H1 a xs ∧ ∀ p, H1 p = none → Q (.ref p) (upd H1 p (.tup xs.reverse))
theorem pe_revT {e : Expr} {te : TE} {k : Nat} {p1 p2 p3 pos : Pos} (he : PE X e te) : PE X (.Subscript e (.Slice none none (some (.UnaryOp .USub (.Constant (.int 1) k p1) p2)) p3) pos) (tRevT X.K te) := by
  refine ⟨fun pins s σ H Q I h => ?_⟩
  refine Subscript_ (thn (he.run pins s σ H _ I h) fun v s1 ⟨x, H1, I1, r1, q1⟩ => ?_)
  obtain ⟨a, xs, ex, hx, q⟩ := q1
  subst ex
  cases r1
  have hst : PO X (some (.UnaryOp .USub (.Constant (.int 1) k p1) p2)) (tPart (tUn (rU fun i => .int (-i)) (tC (.int 1)))) := po_some (pe_un un_neg pe_int)
  refine wpAny_Slice (thn (po_none.run pins s1 σ H1 (fun o H2 => o = none ∧ H2 = H1) I1 ⟨rfl, rfl⟩) fun vl s2 ⟨l, H2, I2, pl, el, e2⟩ => ?_)
  subst el e2
  refine thn (po_none.run pins s2 σ H2 (fun o H3 => o = none ∧ H3 = H2) I2 ⟨rfl, rfl⟩) fun vu s3 ⟨u, H3, I3, pu, eu, e3⟩ => ?_
  subst eu e3
  refine thn (hst.run pins s3 σ H3 (fun o H4 => o = some (-1) ∧ H4 = H3) I3 ⟨1, rfl, -1, rfl, rfl, rfl⟩) fun vs s4 ⟨o, H4, I4, ps, eo, e4⟩ => ?_
  subst eo e4
  have I5 : Inv X pins σ H4 { s4 with heap := s4.heap.push { cls := .type "slice", data := .fields #[vl, vu, vs] } } := I4.kept (t' := s4.toks) fun b ob q => Heap.get?_push_of_some _ q
  obtain ⟨its, r, ht, hz⟩ := I5.tuple hx
  have hlen := r.length
  have hsl := Heap.IsSliceOf.new s4.heap vl vu vs
  cases pl
  cases pu
  cases ps
  refine tail_any (ops := [.ref a, .ref s4.heap.objs.size]) ht.typeIs (PyProof.Rows.slot_tuple_getitem.lookup) ?_ (by with_unfolding_all rfl)
  refine getItem_tuple_rev ht hsl ?_ (by rw [List.size_toArray]; omega)
  refine ⟨.ref _, _, I5.laid (t' := s4.toks) (o := .tup xs.reverse) (fun b ob q => Heap.get?_push_of_some _ q) (Nat.le_refl _) ?_, rfl, q _ (I5.hok.fresh (Nat.le_refl _))⟩
  exact ⟨by rw [List.length_reverse]; exact hz, _, r.reverse, IsTup.new _ _⟩
theorem dpRev {K : PySem.W.Frag} {G : Hp} : ∀ {vs : List V} {ds : List D}, DpAll K G vs ds → DpAll K G vs.reverse ds.reverse
  | _, _, .nil => .nil
  | _, _, .cons a t => by rw [List.reverse_cons, List.reverse_cons]; exact (dpRev t).append (.cons a .nil)
theorem jd_revT {k : Nat} (ha : Jd X M a σ H (.tuple ds)) : Jd X M (.Subscript a (.Slice none none (some (.UnaryOp .USub (.Constant (.int 1) k p1) p2)) p3) pos) σ H (.tuple ds.reverse) := fun al H1 x Q q =>
  leW (pe_revT pe_W) (ha al H1 x _ fun v H2 y p => by
    obtain ⟨t, xs, e1, e2, e3⟩ := dTup p
    refine ⟨t, xs, e1, ex_t hid_le e2, fun c hc => ?_⟩
    have up := hid_ex (M := M) (Ex.new (o := .tup xs.reverse) hc)
    exact q _ _ (y.trans (Ex.new hc)) (.tup (SqT.of ((al.ex (x.trans y)).newEx hc)) (dpRev (e3.ex up))))
/-- t[-1:] -/
theorem jd_slLast (ha : Jd X M a σ H (.tuple ds)) (hb : Jd X M b σ H (.int (-1))) (h : ds ≠ []) : Jd X M (.Subscript a (.Slice (some b) none none p2) pos) σ H (.tuple (ds.drop (ds.length - 1))) := fun al H1 x Q q =>
  leW (pe_slice sl_tupA pe_W (po_some pe_W) po_none) (ha al H1 x _ fun v H2 y p => hb al H2 (x.trans y) _ fun w H3 z r => by
    obtain ⟨t, xs, e1, e2, e3⟩ := dTup p
    have e2' := ex_t (hid_ex (M := M) z) e2
    have e3' := e3.ex (hid_ex (M := M) z)
    have hl := e3.len
    have hpos : 0 < ds.length := List.length_pos_iff.mpr h
    have es : HT.sIx xs.length 0 (some (-1)) = ds.length - 1 := by
      show (if (-1 : Int) < 0 then ((-1 : Int) + (xs.length : Int)).toNat else min (-1 : Int).toNat xs.length) = _
      rw [if_pos (by decide)]; omega
    refine ⟨-1, dInt r, t, xs, e1, ex_t hid_le e2', fun h0 => ?_, fun _ c hc => ?_⟩
    · rw [es] at h0
      rw [h0.1, List.drop_zero] at q
      exact q _ H3 (y.trans z) (.tup e2' e3')
    · have up := hid_ex (M := M) (Ex.new (o := .tup (L2.cutV xs (some (-1)) none)) hc)
      refine q _ _ ((y.trans z).trans (Ex.new hc)) (.tup (SqT.of ((al.ex ((x.trans y).trans z)).newEx hc)) ?_)
      have e : L2.cutV xs (some (-1)) none = xs.drop (ds.length - 1) := by
        unfold L2.cutV
        rw [HT.sIx_none, es, List.take_of_length_le]
        rw [List.length_drop]; omega
      rw [e] at up ⊢
      exact dpDrop _ (e3'.ex up))
/-- is not, of bools -/
theorem jt_isnB {k l : Bool} (ha : Jd X M a σ H (.bool k)) (hb : Jd X M b σ H (.bool l)) : Jt X M (.Compare a [.IsNot] [b] pos) σ H (!decide (k = l)) := fun al H1 x Q q =>
  leT (pt_cmpR op_isnot_bl pe_W pe_W (nm b rfl rfl)) (ha al H1 x _ fun v H2 y p => hb al H2 (x.trans y) _ fun w H3 z r => ⟨k, l, dBl p, dBl r, by
    have e : (decide (k = l)) = decide (k = l) := rfl
    exact ⟨_, rfl, q H3 (y.trans z)⟩⟩)
/-- xs.append(e), e made with effects -/
theorem sy_appE {xs : List Sv} {m : Nat} (S : Sy X.K B M0 ρ μ σ H) (ho : Jv X o σ H (.ref ad)) (hi : μ[m]? = some (ad, .lst xs))
    (h : ∀ H1, Sy X.K B M0 ρ μ σ H1 → tW X e σ H1 fun v H2 => ∃ (B2 : Hp) (M2 : List Addr) (ρ2 : Ro) (μ2 : Mu) (m2 : Nat) (xs2 : List Sv) (s : Sv), Sy X.K B2 M2 ρ2 μ2 σ H2 ∧ s.holds X.K (hid (adr M2 μ2) H2) v ∧ μ2[m2]? = some (ad, .lst xs2) ∧ xs2.length ≤ 90000 ∧ ∀ H3, Sy X.K B2 M2 ρ2 (μ2.set m2 (ad, .lst (xs2 ++ [s]))) σ H3 → tB X rest D' σ H3)
    (hsw : swapsWith (.Call (.Attribute o "append" apos) [e] [] pos) none pos'.line X.env = pure false := by rfl)
    (hbase : attributeBase o "append" X.env (eval o X.env) = eval o X.env := by rfl)
    (hfew : ((backTo pos (starEach [e] X.env)).all (fun x => !x.1) && (backToKw pos (keywordEach [] X.env)).all (fun x => x.1.isSome)
      && decide (([e] : List Expr).length + ([] : List Keyword).length + (if ([] : List Keyword).isEmpty then 0 else 1) < 30)) = true := by rfl)
    (hline : (apos.endLine == pos.line) = true := by rfl) (hs : starEach [e] X.env = (false, eval e X.env) :: starEach [] X.env := by rfl) (hplain : (backTo pos (starEach [] X.env)).any (·.1) = false := by rfl) : tB X (.Expr (.Call (.Attribute o "append" apos) [e] [] pos) pos' :: rest) D' σ H :=
  tB_exprX (leW (pe_bm PySem.F.plainAttrs_list PySem.F.slot_list_append PySem.F.type_list_append mt_append pe_W (pa_cons pe_W pa_nil hs) hbase hfew hline hs hplain) (S.evV ho fun H1 S1 x1 => by
    obtain ⟨vs, h1, h2⟩ := S1.own hi
    refine ⟨.inl ⟨rfl, _, .inl (.inl h1)⟩, tW_mono (h H1 S1) ?_⟩
    rintro v H2 ⟨B2, M2, ρ2, μ2, m2, xs2, s, S2, hv, hi2, hl, k⟩
    obtain ⟨vs2, q1, q2⟩ := S2.own hi2
    have hl2 := paired_len q2
    exact ⟨ad, vs2, v, rfl, rfl, q1, sz_lt (by omega), k _ (S2.upd _ hi2 ⟨_, upd_same, paired_app q2 (.cons hv .nil)⟩)⟩)) hsw
/-- xs[i] += e -/
theorem pget_list : PGet X fun o i H Q => ∃ (p : Addr) (xs : List V) (k : Nat) (v : V), o = .ref p ∧ i = .int (k : Int) ∧ SqL X.K H p xs ∧ xs[k]? = some v ∧ Q v H := by
  intro pins s σ H o i ov iv Q I r1 r2 h
  obtain ⟨p, xs, k, v, rfl, rfl, hq, hv, q⟩ := h
  cases r1
  obtain ⟨t, rfl⟩ := r2
  obtain ⟨its, r, pl, hz⟩ := I.list hq
  obtain ⟨w, ew, rw'⟩ := r.get hv
  have hl := r.length
  have hn := line63
  have hk := (List.getElem?_eq_some_iff.mp hv).1
  exact wpAny_getItem_list pl.isList (by omega) (by omega) (x := w) (by simpa using ew) ⟨v, H, I, rw', q⟩
theorem sy_augIx {xs : List Sv} {m k : Nat} {x y : Int} {tpos : Pos} (S : Sy X.K B M0 ρ μ σ H) (ho : Jv X o σ H (.ref ad)) (hx : Jd X (adr M0 μ) b σ H (.int i)) (hv : Jd X (adr M0 μ) e σ H (.int y)) (hi : μ[m]? = some (ad, .lst xs)) (hk : i = (k : Int)) (hg : xs[k]? = some (.dat (.int x)))
    (kk : ∀ H', Sy X.K B M0 ρ (μ.set m (ad, .lst (xs.set k (.dat (.int (x + y)))))) σ H' → tB X rest D' σ H')
    (ha : ∀ ov iv new, augStore b ov iv new = (do holding [new, ov, iv] (setItem ov iv new); release [new, ov, iv] []; pure .next) := by intros; rfl) : tB X (.AugAssign (.Subscript o b tpos) .Add e pos :: rest) D' σ H :=
  tB_cons (ps_augS pe_W pe_W pget_list pe_W ip_add set_list ha) (S.evV ho fun H1 S1 x1 => S1.ev (hx.mono x1 S.all) fun w H2 S2 x2 p2 => by
    subst hk
    obtain ⟨vs, h1, h2⟩ := S2.own hi
    obtain ⟨v, h3, h4⟩ := paired_get h2 hg
    have h4 : v = .int x := dInt h4
    subst h4
    refine ⟨ad, vs, k, _, rfl, dInt p2, .inl (.inl h1), h3, S2.ev (hv.mono (x1.trans x2) S.all) fun u H3 S3 x3 p3 => ⟨x, y, rfl, dInt p3, ?_⟩⟩
    obtain ⟨vs3, g1, g2⟩ := S3.own hi
    have hl := paired_len g2
    have hkl := (List.getElem?_eq_some_iff.mp hg).1
    refine ⟨ad, vs3, (k : Int), k, rfl, dInt p2, g1, ?_, kk _ (S3.upd _ hi ⟨_, upd_same, paired_set (a := .dat (.int (x + y))) (b := .int (x + y)) (Dp.int _) g2⟩)⟩
    unfold ixN
    rw [if_pos (Int.natCast_nonneg k), if_pos (by omega)]
    rfl)
/-- for over what is made with effects -/
theorem sy_forE (Z : Mu → List D → Prop) (hI : ∀ R : It → Hp → Prop, (∀ J H2 μ ds, Z μ ds → Sy X.K B M0 ρ μ σ H2 → Yl X.K (hid (adr M0 μ) H2) J ds → R J H2) → tI X tg iter σ H R) (f : D → Ro → Ro) (hg : ∀ μ ds d ρ', Z μ ds → d ∈ ds → Jg X tg js d ρ' (f d ρ')) (I : Mu → List D → Nat → Ro → Mu → Prop) (h0 : ∀ μ ds, Z μ ds → I μ ds 0 ρ μ)
    (hs : ∀ μ ds i d ρ' μ' σ' H' B', Z μ ds → ds[i]? = some d → I μ ds i ρ' μ' → Ex B B' → Sy X.K B' M0 (f d ρ') μ' σ' H' →
      tB X body ⟨fun σ2 H2 => ∃ ρ2 μ2, I μ ds (i + 1) ρ2 μ2 ∧ Sy X.K B' M0 ρ2 μ2 σ2 H2, D'.rt, tB X rest D', fun σ2 H2 => ∃ ρ2 μ2, I μ ds (i + 1) ρ2 μ2 ∧ Sy X.K B' M0 ρ2 μ2 σ2 H2⟩ σ' H')
    (hd : ∀ μ ds ρ' μ' σ' H', Z μ ds → I μ ds ds.length ρ' μ' → Sy X.K B M0 ρ' μ' σ' H' → tB X rest D' σ' H')
    (hp : PassesOwn (model X.prog X.w) X.A X.env X.xe) (hc : X.calm = true) (hfs : ∀ x, foldedSetIterable iter X.env x = pure x := by intro _; rfl) : tB X (.For tg iter body [] pos :: rest) D' σ H :=
  tB_cons (ps_for hp hc pi_I pg_G pss_B hfs) (hI _ fun J H2 μ ds z S2 yl => by
    obtain ⟨G, Y, w, hG, hY⟩ := yl
    have low : hid M0 (grd μ H2) = hid (adr M0 μ) H2 := grd_low
    refine for_it w (fun i σ' H' => ∃ ρ' μ', I μ ds i ρ' μ' ∧ Sy X.K (grd μ H2) M0 ρ' μ' σ' H') ⟨ρ, μ, h0 μ ds z, S2.grd⟩ (fun i σ' H' hi ⟨ρ', μ', _, S'⟩ => hG H' ?_) (fun i x σ' H' H3 hi ⟨ρ', μ', hI, S'⟩ y => ?_) fun σ' H' ⟨ρ', μ', hI, S'⟩ => hd μ ds ρ' μ' σ' H' z hI (S'.base S2.grdB)
    · rw [← low]; exact S'.low.trans hid_le
    · have g0 : Ex (hid (adr M0 μ) H2) (hid (adr M0 μ') H') := by rw [← low]; exact S'.low
      obtain ⟨x3, dx⟩ := hY i H' x H3 hi (g0.trans hid_le) y
      have hdi : ds[i]? = some ds[i] := List.getElem?_eq_getElem hi
      have p := dx (adr M0 μ') S'.all g0 ds[i] hdi
      have S3 := S'.ex x3
      exact hg μ ds ds[i] ρ' z (List.getElem_mem hi) _ _ _ _ _ _ S3 p _ fun σ4 S4 _ _ => hs μ ds i ds[i] ρ' μ' σ4 H3 (grd μ H2) z hdi hI S2.grdB S4)
/-- what is one's own list, walked while nothing of it changes: its data -/
theorem own_yl {xs : List D} {m : Nat} {tg : Expr} (S : Sy X.K B M0 ρ μ σ H) (hi : μ[m]? = some (ad, .lst (xs.map .dat))) : ∃ vs, H ad = some (.lst vs) ∧ DpAll X.K (hid (adr M0 (μ.eraseIdx m)) H) vs xs := by
  obtain ⟨vs, h1, h2⟩ := S.own hi
  exact ⟨vs, h1, dats_all (hid_sub erase_sub) h2⟩
end
end J

set_option maxHeartbeats 4000000
/-! J22: one's own list is looked at for a while and is one's own again afterwards. -/
namespace J
open PySem PySem.Spec PyProof.Rows L2 Evl RZ
/-- at a, in the ground B0, stands a list of xs; it was not in B -/
def Fz (K : PySem.W.Frag) (B0 B : Hp) (M0 : List Addr) (a : Addr) (xs : List D) : Prop := ∃ vs, B0 a = some (.lst vs) ∧ DpAll K (hid (a :: M0) B0) vs xs ∧ a ∉ M0 ∧ B a = none ∧ Ex B B0
/-- no list stands in what a slot, an object holds -/
def noS : Sv → Bool
  | .dat d => noL d
  | _ => true
def noO : Option Sv → Bool
  | some s => noS s
  | none => true
def noMo : Mo → Bool
  | .lst xs => xs.all noS
  | .dct kvs => kvs.all fun p => noS p.2
  | .ins _ _ fs => fs.all fun p => noS p.2
  | .tab _ => true
section
variable {K : PySem.W.Frag} {B B' B0 H : Hp} {M0 : List Addr} {ρ : Ro} {μ : Mu} {σ : L2.St} {a : Addr} {xs : List D}
theorem Sy.fz (S : Sy K B M0 ρ ((a, .lst (xs.map .dat)) :: μ) σ H) : Fz K (J.grd μ H) B M0 a xs ∧ Sy K (J.grd μ H) M0 ρ μ σ H := by
  have S1 := S.drop1
  obtain ⟨vs, h1, h2⟩ := S.own (i := 0) rfl
  have na : a ∉ μ.map (·.1) := (List.nodup_cons.mp S.dj.1).1
  have nm : a ∉ M0 := S.dj.2 _ List.mem_cons_self
  refine ⟨⟨vs, ?_, ?_, nm, S.nb _ List.mem_cons_self, S1.grdB⟩, S1.grd⟩
  · show hid (μ.map (·.1)) H a = _
    rw [hid_out na]; exact h1
  · have e : hid (a :: M0) (J.grd μ H) = hid (adr M0 ((a, .lst (xs.map .dat)) :: μ)) H := by
      unfold J.grd
      rw [hid_app]
      funext b
      have : b ∈ μ.map (·.1) ++ a :: M0 ↔ b ∈ adr M0 ((a, Mo.lst (xs.map .dat)) :: μ) := by
        unfold adr
        simp only [List.map_cons, List.cons_append, List.mem_append, List.mem_cons]
        exact ⟨fun h => by rcases h with h | h | h <;> simp [h], fun h => by rcases h with h | h | h <;> simp [h]⟩
      unfold hid
      by_cases hb : b ∈ adr M0 ((a, Mo.lst (xs.map .dat)) :: μ)
      · rw [if_pos (this.mpr hb), if_pos hb]
      · rw [if_neg fun z => hb (this.mp z), if_neg hb]
    rw [e]
    exact dats_all (Ex.refl _) h2
theorem Fz.jd {X : Cx} {e : Expr} (F : Fz X.K B0 B M0 a xs) (hB : Ex B0 B') (S : Sy X.K B' M0 ρ μ σ H) (he : Jv X e σ H (.ref a)) : Jd X (adr M0 μ) e σ H (.list xs) := fun _ H1 x Q q => by
  obtain ⟨vs, h1, h2, h3, _, _⟩ := F
  refine he H1 x Q fun H2 y => q _ H2 y ?_
  have low := (hid_ex hB).trans (S.ex (x.trans y)).low
  exact .lst (SqL.of (low _ _ (by rw [hid_out h3]; exact h1))) (h2.ex ((hid_sub fun b hb => List.mem_cons_of_mem _ hb).trans low))
theorem Fz.le (F : Fz K B0 B M0 a xs) : Ex B B0 := let ⟨_, _, _, _, _, h⟩ := F; h
theorem sv_hid {M M' : List Addr} {vs : List V} {s : Sv} {v : V} (ha : H a = some (.lst vs)) (hM : ∀ b ∈ M, b = a ∨ b ∈ M') (n : noS s = true) (h : s.holds K (hid M' H) v) : s.holds K (hid M H) v := by
  cases s with
  | dat d => exact dp_hid ha hM d v n h
  | val w => exact h
  | exc cls =>
    obtain ⟨b, h1, h2⟩ := h
    refine ⟨b, h1, ?_⟩
    by_cases hb : b ∈ M'
    · rw [hid_in hb] at h2; cases h2
    · rw [hid_out hb] at h2
      rw [hid_out fun z => ?_]
      · exact h2
      · rcases hM b z with z | z
        · rw [z, ha] at h2; cases h2
        · exact hb z
theorem paired_hid {M M' : List Addr} {vs : List V} (ha : H a = some (.lst vs)) (hM : ∀ b ∈ M, b = a ∨ b ∈ M') : ∀ {xs : List Sv} {ws : List V}, xs.all noS = true → Paired (fun s v => Sv.holds K (hid M' H) s v) xs ws → Paired (fun s v => Sv.holds K (hid M H) s v) xs ws
  | _, _, _, .nil => .nil
  | s :: xs, _, n, .cons p q => by
    rw [List.all_cons, Bool.and_eq_true] at n
    exact .cons (sv_hid ha hM n.1 p) (paired_hid ha hM n.2 q)
theorem paired2_hid {κ : Type} {M M' : List Addr} {vs : List V} (ha : H a = some (.lst vs)) (hM : ∀ b ∈ M, b = a ∨ b ∈ M') : ∀ {xs : List (κ × Sv)} {ws : List (κ × V)}, (xs.all fun p => noS p.2) = true → Paired (fun (p : κ × Sv) (q : κ × V) => p.1 = q.1 ∧ p.2.holds K (hid M' H) q.2) xs ws → Paired (fun (p : κ × Sv) (q : κ × V) => p.1 = q.1 ∧ p.2.holds K (hid M H) q.2) xs ws
  | _, _, _, .nil => .nil
  | s :: xs, _, n, .cons p q => by
    rw [List.all_cons, Bool.and_eq_true] at n
    exact .cons ⟨p.1, sv_hid ha hM n.1 p.2⟩ (paired2_hid ha hM n.2 q)
theorem mo_hid {M M' : List Addr} {vs : List V} {b : Addr} {m : Mo} (ha : H a = some (.lst vs)) (hM : ∀ b ∈ M, b = a ∨ b ∈ M') (n : noMo m = true) (h : m.holds K (hid M' H) H b) : m.holds K (hid M H) H b := by
  cases m with
  | lst xs => obtain ⟨ws, h1, h2⟩ := h; exact ⟨ws, h1, paired_hid ha hM n h2⟩
  | dct xs => obtain ⟨ws, h1, h2⟩ := h; exact ⟨ws, h1, paired2_hid ha hM n h2⟩
  | ins C dx xs => obtain ⟨ws, h1, h2⟩ := h; exact ⟨ws, h1, paired2_hid ha hM n h2⟩
  | tab q =>
    obtain ⟨ps, h1, h2, h3⟩ := h
    refine ⟨ps, h1, h2, fun pos cv z => ?_⟩
    obtain ⟨c, c1, c2⟩ := h3 pos cv z
    refine ⟨c, c1, ?_⟩
    by_cases hb : c ∈ M'
    · rw [hid_in hb] at c2; cases c2
    · rw [hid_out hb] at c2
      rw [hid_out fun z => ?_]
      · exact c2
      · rcases hM c z with z | z
        · rw [z, ha] at c2; cases c2
        · exact hb z
/-- .. it is one's own again -/
theorem Fz.thaw (F : Fz K B0 B M0 a xs) (S : Sy K B0 M0 ρ μ σ H) (nr : ρ.all noO = true) (nm : (μ.all fun p => noMo p.2) = true) : Sy K B M0 ρ ((a, .lst (xs.map .dat)) :: μ) σ H := by
  obtain ⟨vs, h1, h2, h3, h4, h5⟩ := F
  have ha : H a = some (.lst vs) := S.bs _ _ h1
  have nin : a ∉ μ.map (·.1) := fun z => by
    obtain ⟨p, hp, e⟩ := List.mem_map.mp z
    have := S.nb p hp
    rw [e, h1] at this; cases this
  have hM : ∀ b ∈ adr M0 ((a, .lst (xs.map .dat)) :: μ), b = a ∨ b ∈ adr M0 μ := fun b hb => List.mem_cons.mp hb
  have up : Ex (hid (adr M0 ((a, .lst (xs.map .dat)) :: μ)) H) (hid (adr M0 μ) H) := hid_sub fun b hb => List.mem_cons_of_mem _ hb
  refine ⟨fun i s hi => ?_, S.ln, fun p hp => ?_, S.al, h5.trans S.bs, fun p hp => ?_, List.nodup_cons.mpr ⟨nin, S.dj.1⟩, fun p hp => ?_⟩
  · obtain ⟨v, q1, q2⟩ := S.sl i s hi
    exact ⟨v, q1, sv_hid ha hM (show noO (some s) = true from List.all_eq_true.mp nr _ (List.mem_of_getElem? hi)) q2⟩
  · rcases List.mem_cons.mp hp with rfl | hp
    · refine ⟨vs, ha, ?_⟩
      have low : Ex (hid (a :: M0) B0) (hid (adr M0 ((a, .lst (xs.map .dat)) :: μ)) H) := fun b o e => by
        by_cases hb : b ∈ a :: M0
        · rw [hid_in hb] at e; cases e
        · rw [hid_out hb] at e
          rw [hid_out fun z => ?_]
          · exact S.bs b o e
          · rcases List.mem_cons.mp (show b ∈ a :: adr M0 μ from z) with z | z
            · exact hb (by rw [z]; exact List.mem_cons_self)
            · rcases List.mem_append.mp z with z | z
              · obtain ⟨p, hp, q⟩ := List.mem_map.mp z
                rw [← q, S.nb p hp] at e; cases e
              · exact hb (List.mem_cons_of_mem _ z)
      exact paired_dat (h2.ex low)
    · exact mo_hid ha hM (List.all_eq_true.mp nm p hp) (S.ob p hp)
  · rcases List.mem_cons.mp hp with rfl | hp
    · exact h4
    · cases q : B p.1 with
      | none => rfl
      | some o => exact absurd ((h5 _ _ q).symm.trans (S.nb p hp)) (by simp)
  · rcases List.mem_cons.mp hp with rfl | hp
    · exact h3
    · exact S.dj.2 p hp
end
end J

set_option maxHeartbeats 4000000
/-! J23: values on the way: what was made already while the rest of a display, of arguments, is made with effects. -/
namespace J
open PySem PySem.Spec PyProof.Rows L2 Evl RZ
/-- the state, and values ts = vs that are at hand -/
def Sx (K : PySem.W.Frag) (B : Hp) (M0 : List Addr) (ρ : Ro) (μ : Mu) (σ : L2.St) (ts : List Sv) (vs : List V) (H : Hp) : Prop := Sy K B M0 (ρ ++ ts.map some) μ (σ ++ vs.map some) H ∧ ρ.length = σ.length
section
variable {K : PySem.W.Frag} {B H H' : Hp} {M0 : List Addr} {ρ : Ro} {μ μ' : Mu} {σ : L2.St} {ts : List Sv} {vs : List V} {s : Sv} {v : V}
theorem Sy.sx (S : Sy K B M0 ρ μ σ H) : Sx K B M0 ρ μ σ [] [] H := ⟨by simpa using S, S.ln⟩
theorem Sx.base (S : Sx K B M0 ρ μ σ ts vs H) : Sy K B M0 ρ μ σ H := S.1.reslot S.2 fun i s h => by
  have hi : i < ρ.length := (List.getElem?_eq_some_iff.mp h).1
  obtain ⟨v, h1, h2⟩ := S.1.sl i s (by rw [List.getElem?_append_left hi]; exact h)
  rw [List.getElem?_append_left (by rw [← S.2]; exact hi)] at h1
  exact ⟨v, h1, h2⟩
theorem Sx.ex (S : Sx K B M0 ρ μ σ ts vs H) (e : Ex H H') : Sx K B M0 ρ μ σ ts vs H' := ⟨S.1.ex e, S.2⟩
theorem Sx.len (S : Sx K B M0 ρ μ σ ts vs H) : ts.length = vs.length := by
  have h1 := S.1.ln
  have h2 := S.2
  simp at h1
  omega
theorem Sx.push (S : Sx K B M0 ρ μ σ ts vs H) (h : s.holds K (hid (adr M0 μ) H) v) : Sx K B M0 ρ μ σ (ts ++ [s]) (vs ++ [v]) H := by
  refine ⟨S.1.reslot (by have h1 := S.1.ln; simp at h1 ⊢; omega) fun i t e => ?_, S.2⟩
  have hl := S.1.ln
  have hl2 := S.len
  by_cases hi : i < (ρ ++ ts.map some).length
  · have e' : (ρ ++ ts.map some)[i]? = some (some t) := by
      rw [List.map_append, ← List.append_assoc, List.getElem?_append_left hi] at e; exact e
    obtain ⟨u, h1, h2⟩ := S.1.sl i t e'
    refine ⟨u, ?_, h2⟩
    rw [List.map_append, ← List.append_assoc, List.getElem?_append_left (by rw [← hl]; exact hi)]
    exact h1
  · rw [List.map_append, ← List.append_assoc, List.getElem?_append_right (by omega)] at e
    have h0 : i - (ρ ++ ts.map some).length = 0 := by
      have := (List.getElem?_eq_some_iff.mp e).1
      simp at this; simp; omega
    rw [h0] at e
    cases e
    refine ⟨v, ?_, h⟩
    rw [List.map_append, ← List.append_assoc, List.getElem?_append_right (by omega), ← hl, h0]
    rfl
theorem paired_of {F : Sv → V → Prop} : ∀ {ts : List Sv} {vs : List V}, ts.length = vs.length → (∀ (i : Nat) (s : Sv), ts[i]? = some s → ∃ v, vs[i]? = some v ∧ F s v) → Paired F ts vs
  | [], [], _, _ => .nil
  | s :: ts, v :: vs, hl, h => by
    obtain ⟨v', h1, h2⟩ := h 0 s rfl
    cases h1
    exact .cons h2 (paired_of (by simpa using hl) fun i s' e => h (i + 1) s' e)
  | [], _ :: _, hl, _ => by simp at hl
  | _ :: _, [], hl, _ => by simp at hl
/-- the values at hand are what they were -/
theorem Sx.vals (S : Sx K B M0 ρ μ σ ts vs H) : Paired (fun s v => Sv.holds K (hid (adr M0 μ) H) s v) ts vs := paired_of S.len fun i s e => by
  have hi := (List.getElem?_eq_some_iff.mp e).1
  have e' : (ρ ++ ts.map some)[ρ.length + i]? = some (some s) := by
    rw [List.getElem?_append_right (by omega), Nat.add_sub_cancel_left, List.getElem?_map, e]; rfl
  obtain ⟨v, h1, h2⟩ := S.1.sl _ _ e'
  rw [List.getElem?_append_right (by have := S.2; omega), ← S.2, Nat.add_sub_cancel_left, List.getElem?_map] at h1
  obtain ⟨u, h3, h4⟩ := Option.map_eq_some_iff.mp h1
  cases h4
  exact ⟨v, h3, h2⟩
theorem dats_of {G : Hp} : ∀ {ds : List D} {vs : List V}, Paired (fun s v => Sv.holds K G s v) (ds.map .dat) vs → DpAll K G vs ds
  | [], _, h => by cases h; exact .nil
  | d :: ds, _, h => by cases h with | cons x y => exact .cons x (dats_of y)
theorem Sx.dats {ds : List D} (S : Sx K B M0 ρ μ σ (ds.map .dat) vs H) : DpAll K (hid (adr M0 μ) H) vs ds := dats_of S.vals
theorem Sx.perm (S : Sx K B M0 ρ μ σ ts vs H) (p : μ'.Perm μ) : Sx K B M0 ρ μ' σ ts vs H := ⟨S.1.perm p, S.2⟩
theorem Sx.newN {a : Addr} (S : Sx K B M0 ρ μ σ ts vs H) (m : Mo) (x : Ex H H') (hn : H a = none) (ho : m.holds K (hid (a :: adr M0 μ) H') H' a) : Sx K B M0 ρ ((a, m) :: μ) σ ts vs H' := ⟨S.1.newN m x hn ho, S.2⟩
end
section
variable {X : Cx} {B H : Hp} {M0 : List Addr} {ρ : Ro} {μ μ1 μ2 : Mu} {σ : L2.St} {ts : List Sv} {vs : List V} {s : Sv} {e : Expr} {es : List Expr} {ds : List D} {d : D} {pos p : Pos}
theorem Sx.ev (S : Sx X.K B M0 ρ μ σ ts vs H) (h : Js X (adr M0 μ) e σ H s) {Q : VK} (k : ∀ v H', Sx X.K B M0 ρ μ σ (ts ++ [s]) (vs ++ [v]) H' → Q v H') : tW X e σ H Q :=
  h S.1.all H (Ex.refl H) Q fun v H' x p => k v H' ((S.ex x).push p)
theorem Sx.evN (S : Sx X.K B M0 ρ μ σ ts vs H) (h : Jn X (adr M0 μ) e σ H ds) {Q : VK} (k : ∀ a H', Sx X.K B M0 ρ ((a, .lst (ds.map .dat)) :: μ) σ (ts ++ [.val (.ref a)]) (vs ++ [.ref a]) H' → Q (.ref a) H') : tW X e σ H Q :=
  h S.1.all H (Ex.refl H) Q fun a vs' H2 y hn ha p => k a H2 (Sx.push (s := .val (.ref a)) (v := .ref a) (S.newN (.lst (ds.map .dat)) y hn ⟨vs', ha, paired_dat p⟩) rfl)
/-- a call whose callee changes objects -/
theorem Sx.call {k n : Nat} {x : Str} {ps : List Str} {Pre : List Sv → Mu → Prop} {R : List Sv → Mu → Sv → Mu → Prop} {ss : List Sv} {Q : VK} (S : Sx X.K B M0 ρ (μ1 ++ μ2) σ ts vs H) (F : Fd CX0 X.prog X.w X.K X.mg X.base k x ps (spM X.K n Pre R noF)) (hr : Room k X.A) (ha : Jsa X (adr M0 (μ1 ++ μ2)) (e :: es) σ H ss) (hn : ss.length = n) (hp : Pre ss μ1)
    (kk : ∀ v s μ1' H', R ss μ1 s μ1' → Sx X.K B M0 ρ (μ1' ++ μ2) σ (ts ++ [s]) (vs ++ [v]) H' → Q v H') (hg : Gl X x := by rfl) (hdb : (x == ("__debug__" : Str)) = false := by decide)
    (he : starEach (e :: es) X.env = (false, eval e X.env) :: starEach es X.env := by rfl) (hpl : (backTo pos (starEach es X.env)).any (·.1) = false := by rfl) : tW X (.Call (.Name x p) (e :: es) [] pos) σ H Q :=
  jm_callE F hr (ha S.1.all H (Ex.refl H) _ fun ws H2 x2 pv => callM (S.ex x2).1 pv hn hp (fun v s μ1' H' r S' hv => kk v s μ1' H' r (Sx.push ⟨S', S.2⟩ hv)) fun _ _ h => h.elim) hg hdb he hpl
theorem tA_nil {Q : List V → Hp → Prop} (h : Q [] H) : tA X [] σ H Q := leA pa_nil h
theorem tA_cons {Q : List V → Hp → Prop} (h : tW X e σ H fun v H1 => tA X es σ H1 fun vs H2 => Q (v :: vs) H2) (hs : starEach (e :: es) X.env = (false, eval e X.env) :: starEach es X.env := by rfl) : tA X (e :: es) σ H Q := leA (pa_cons pe_W pa_A hs) h
/-- a new list, a new tuple of what was made -/
theorem tW_lst {Q : VK} {n : Nat} (h : tA X es σ H fun ws H1 => ws.length ≤ 100000 ∧ ∀ a, H1 a = none → Q (.ref a) (upd H1 a (.lst ws))) : tW X (.List es pos) σ H Q :=
  leW (pe_lst pa_A) (tA_mono h fun ws H1 ⟨hz, q⟩ => ⟨sz_of hz, q⟩)
theorem tW_tup {Q : VK} {n : Nat} (h : tA X es σ H fun ws H1 => ws.length ≤ 100000 ∧ ∀ a, H1 a = none → Q (.ref a) (upd H1 a (.tup ws))) : tW X (.Tuple es n pos) σ H Q :=
  leW (pe_tup pa_A) (tA_mono h fun ws H1 ⟨hz, q⟩ => ⟨sz_of hz, q⟩)
/-- .. as one's own list -/
theorem Sx.lst {a : Addr} {us : List Sv} {ws : List V} (S : Sx X.K B M0 ρ μ σ (ts ++ us) (vs ++ ws) H) (hl : ts.length = vs.length) (hn : H a = none) : Sx X.K B M0 ρ ((a, .lst us) :: μ) σ ts vs (upd H a (.lst ws)) := by
  have hv := S.vals
  have key : ∀ {ts us : List Sv} {vs ws : List V} {F : Sv → V → Prop}, ts.length = vs.length → Paired F (ts ++ us) (vs ++ ws) → Paired F us ws := by
    intro ts
    induction ts with
    | nil => intro us vs ws F h p; cases vs with
      | nil => exact p
      | cons _ _ => simp at h
    | cons t ts ih => intro us vs ws F h p; cases vs with
      | nil => simp at h
      | cons v vs => cases p with | cons _ q => exact ih (by simpa using h) q
  have hp := key hl hv
  have S2 := S.newN (a := a) (.lst us) (Ex.new hn) hn ⟨ws, upd_same, by
    have e : hid (a :: adr M0 μ) (upd H a (.lst ws)) = hid (adr M0 μ) H := hid_new hn
    rw [e]; exact hp⟩
  refine ⟨S2.1.reslot (by have := S.2; simp; omega) fun i s h => ?_, S.2⟩
  have hi := (List.getElem?_eq_some_iff.mp h).1
  obtain ⟨v, h1, h2⟩ := S2.1.sl i s (by rw [List.map_append, ← List.append_assoc, List.getElem?_append_left hi]; exact h)
  rw [List.map_append, ← List.append_assoc, List.getElem?_append_left (by have := S.2; simp at hi ⊢; omega)] at h1
  exact ⟨v, h1, h2⟩
/-- list(t) as a new list -/
theorem jn_lstOf {M : List Addr} {a : Expr} (hm : X.mg "list" = none) (ha : Jd X M a σ H d) (h : d = .list ds ∨ d = .tuple ds) (hg : Gl X "list" := by rfl) (hs : starEach [a] X.env = (false, eval a X.env) :: starEach [] X.env := by rfl) : Jn X M (.Call (.Name "list" p) [a] [] pos) σ H ds := fun al H1 x Q q =>
  leW (pe_callTy call_list_of hg hm (by decide +kernel) (pa_cons pe_W pa_nil hs) (by decide) (by decide) hs) (ha al H1 x _ fun v H2 y r => by
    have h1n : ∀ l, H2 l = none → H1 l = none := fun l hl => by
      cases z : H1 l with
      | none => rfl
      | some o => rw [y _ _ z] at hl; cases hl
    rcases h with rfl | rfl
    · obtain ⟨t, xs, e1, e2, e3⟩ := dLst r
      exact ⟨t, xs, by rw [e1], .inl (ex_l hid_le e2), fun l hl => q l xs _ (y.trans (Ex.new hl)) (h1n l hl) upd_same (by rw [hid_new hl]; exact e3)⟩
    · obtain ⟨t, xs, e1, e2, e3⟩ := dTup r
      exact ⟨t, xs, by rw [e1], .inr (ex_t hid_le e2), fun l hl => q l xs _ (y.trans (Ex.new hl)) (h1n l hl) upd_same (by rw [hid_new hl]; exact e3)⟩)
end
/-! ### xs[i], xs[j] = xs[j], xs[i] -/
section
variable {X : Cx} {B H : Hp} {M0 : List Addr} {ρ : Ro} {μ : Mu} {σ : L2.St} {o b1 b2 : Expr} {pos p1 p2 p3 p4 pt pt2 : Pos} {rest : List Stmt} {D' : Ends} {xs : List Sv} {m i j : Nat} {a : Addr} {zi zj : Int} {s1 s2 : Sv} {kt k2 : Nat} {o1 o2 o3 o4 c1 c2 c3 c4 : Expr}
theorem setL_of (S : Sy X.K B M0 ρ μ σ H) {v : V} {s : Sv} (hi : μ[m]? = some (a, .lst xs)) (hv : s.holds X.K (hid (adr M0 μ) H) v) (hlt : i < xs.length) {Q : Hp → Prop} (k : ∀ H', Sy X.K B M0 ρ (μ.set m (a, .lst (xs.set i s))) σ H' → Q H') : rSetL (.ref a) (.int (i : Int)) v H Q := by
  obtain ⟨vs, h1, h2⟩ := S.own hi
  have hl := paired_len h2
  refine ⟨a, vs, (i : Int), i, rfl, rfl, h1, ?_, k _ (S.upd _ hi ⟨_, upd_same, paired_set hv h2⟩)⟩
  unfold ixN
  rw [if_pos (Int.natCast_nonneg i), if_pos (by omega)]
  rfl
theorem sy_swap (S : Sy X.K B M0 ρ μ σ H) (hc : X.calm = true) (hi : μ[m]? = some (a, .lst xs)) (ho : ∀ H', Jv X o1 σ H' (.ref a)) (ho2 : ∀ H', Jv X o2 σ H' (.ref a)) (ho3 : ∀ H', Jv X o3 σ H' (.ref a)) (ho4 : ∀ H', Jv X o4 σ H' (.ref a)) (hc1 : ∀ H', Jv X c1 σ H' (.int (i : Int))) (hc2 : ∀ H', Jv X c2 σ H' (.int (j : Int))) (hc3 : ∀ H', Jv X c3 σ H' (.int (j : Int))) (hc4 : ∀ H', Jv X c4 σ H' (.int (i : Int)))
    (h1 : xs[i]? = some s1) (h2 : xs[j]? = some s2) (k : ∀ H', Sy X.K B M0 ρ (μ.set m (a, .lst ((xs.set i s2).set j s1))) σ H' → tB X rest D' σ H') (hx3 : PlainIx c3 := by exact fun _ _ => rfl) (hx4 : PlainIx c4 := by exact fun _ _ => rfl)
    (ha : ∀ v, assign (.Subscript o1 c1 p1) X.env v = (do
      let ov ← holding [v] (eval o1 X.env)
      let iv ← holding [v, ov] (eval c1 X.env)
      standAt p1
      holding [v, ov, iv] (setItem ov iv v)
      release [v, ov, iv] []) := by intro _; rfl)
    (hb : ∀ v, assign (.Subscript o2 c2 p2) X.env v = (do
      let ov ← holding [v] (eval o2 X.env)
      let iv ← holding [v, ov] (eval c2 X.env)
      standAt p2
      holding [v, ov, iv] (setItem ov iv v)
      release [v, ov, iv] []) := by intro _; rfl)
    (hs : swapsWithSole [.Tuple [.Subscript o1 c1 p1, .Subscript o2 c2 p2] kt pt] (.Tuple [.Subscript o3 c3 p3, .Subscript o4 c4 p4] k2 pt2) pos.line X.env = pure false := by rfl) (hw : swappedStores [.Tuple [.Subscript o1 c1 p1, .Subscript o2 c2 p2] kt pt] (.Tuple [.Subscript o3 c3 p3, .Subscript o4 c4 p4] k2 pt2) X.env = pure none := by rfl)
    (hh1 : (assignEach [.Tuple [.Subscript o1 c1 p1, .Subscript o2 c2 p2] kt pt] X.env).map (·.2) = [assign (.Tuple [.Subscript o1 c1 p1, .Subscript o2 c2 p2] kt pt) X.env] := by rfl)
    (hgs : (assignEach [.Subscript o1 c1 p1, .Subscript o2 c2 p2] X.env).map (·.2) = assign (.Subscript o1 c1 p1) X.env :: (assignEach [.Subscript o2 c2 p2] X.env).map (·.2) := by rfl) (hgs2 : (assignEach [.Subscript o2 c2 p2] X.env).map (·.2) = assign (.Subscript o2 c2 p2) X.env :: (assignEach [] X.env).map (·.2) := by rfl)
    (hst : (assignEach [.Subscript o1 c1 p1, .Subscript o2 c2 p2] X.env).findIdx? (·.1) = none := by rfl) (hne : (assignEach [.Subscript o1 c1 p1, .Subscript o2 c2 p2] X.env).length = 2 := by rfl)
    (hs1 : starEach [.Subscript o3 c3 p3, .Subscript o4 c4 p4] X.env = (false, eval (.Subscript o3 c3 p3) X.env) :: starEach [.Subscript o4 c4 p4] X.env := by rfl) (hs2 : starEach [.Subscript o4 c4 p4] X.env = (false, eval (.Subscript o4 c4 p4) X.env) :: starEach [] X.env := by rfl) :
    tB X (.Assign [.Tuple [.Subscript o1 c1 p1, .Subscript o2 c2 p2] kt pt] (.Tuple [.Subscript o3 c3 p3, .Subscript o4 c4 p4] k2 pt2) pos :: rest) D' σ H := by
  have hlen1 : i < xs.length := (List.getElem?_eq_some_iff.mp h1).1
  have hlen2 : j < xs.length := (List.getElem?_eq_some_iff.mp h2).1
  refine tB_cons (ps_asg (pe_tup (pa_cons (pe_ix ix_list pe_W pe_W hx3) (pa_cons (pe_ix ix_list pe_W pe_W hx4) pa_nil hs2) hs1)) (pg_tup hc (pgs_cons (pg_sub pe_W pe_W set_list ha) (pgs_cons (pg_sub pe_W pe_W set_list hb) pgs_nil hgs2) hgs) rfl hst) hs hw hh1) ?_
  refine (S.evV (ho3 H)) fun H1 S1 x1 => S1.evV (hc3 H1) fun H2 S2 x2 => ?_
  obtain ⟨vs2, g1, g2⟩ := S2.own hi
  obtain ⟨v2, g3, g4⟩ := paired_get g2 h2
  refine ⟨a, vs2, (j : Int), v2, rfl, rfl, .inl (.inl g1), atI_nat g3, ?_⟩
  refine (S2.evV (ho4 H2)) fun H3 S3 x3 => S3.evV (hc4 H3) fun H4 S4 x4 => ?_
  obtain ⟨vs4, f1, f2⟩ := S4.own hi
  obtain ⟨v1, f3, f4⟩ := paired_get f2 h1
  refine ⟨a, vs4, (i : Int), v1, rfl, rfl, .inl (.inl f1), atI_nat f3, ?_⟩
  refine ⟨sz_of (by simp), fun q hq => ?_⟩
  have e24 := x3.trans x4
  have S5 := (S4.sx.push f4).push (Sv.holds.ex g4 (hid_ex e24))
  have S6 := S5.ex (Ex.new (o := .tup [v2, v1]) hq)
  refine ⟨q, [v2, v1], rfl, SqT.of upd_same, by rw [hne]; rfl, ?_⟩
  refine ⟨v2, [v1], rfl, ?_⟩
  refine S6.base.evV (ho _) fun H7 S7 x7 => S7.evV (hc1 _) fun H8 S8 x8 => ?_
  have S8x := (S6.ex x7).ex x8
  have p2 : s2.holds X.K (hid (adr M0 μ) H8) v2 := by
    have := S8x.vals
    cases this with | cons _ t => cases t with | cons y _ => exact y
  have p1' : s1.holds X.K (hid (adr M0 μ) H8) v1 := by
    have := S8x.vals
    cases this with | cons y _ => exact y
  -- the first store; the other value is carried
  obtain ⟨vs8, u1, u2⟩ := S8.own hi
  have hl8 := paired_len u2
  have So := S8x.1.upd (o := .lst (vs8.set i v2)) (.lst (xs.set i s2)) hi ⟨_, upd_same, paired_set p2 u2⟩
  have Sx9 : Sx X.K B M0 ρ (μ.set m (a, .lst (xs.set i s2))) σ [s1, s2] [v1, v2] (upd H8 a (.lst (vs8.set i v2))) := ⟨So, S8x.2⟩
  refine ⟨a, vs8, (i : Int), i, rfl, rfl, u1, ?_, ?_⟩
  · unfold ixN
    rw [if_pos (Int.natCast_nonneg i), if_pos (by omega)]
    rfl
  refine ⟨v1, [], rfl, ?_⟩
  refine Sx9.base.evV (ho2 _) fun H10 S10 x10 => S10.evV (hc2 _) fun H11 S11 x11 => ?_
  have S11x := (Sx9.ex x10).ex x11
  have p1'' : s1.holds X.K (hid (adr M0 (μ.set m (a, .lst (xs.set i s2)))) H11) v1 := by
    have := S11x.vals
    cases this with | cons y _ => exact y
  have hm : m < μ.length := (List.getElem?_eq_some_iff.mp hi).1
  refine setL_of (xs := xs.set i s2) S11 (by rw [List.getElem?_set_self hm]) p1'' (by rw [List.length_set]; exact hlen2) fun H12 S12 => ⟨rfl, ?_⟩
  rw [List.set_set] at S12
  exact k H12 S12
end
end J

set_option maxHeartbeats 4000000
/-! J24: x, y = a, b where a name is kept in a cell. -/
namespace J
open PySem PySem.Spec PyProof.Rows L2 Evl RZ
section
variable {X : Cx} {B H : Hp} {M0 : List Addr} {ρ : Ro} {μ : Mu} {σ : L2.St} {a b : Expr} {pos : Pos} {rest : List Stmt} {D' : Ends}
theorem sy_tup2 (i j : Nat) {x y : Str} {px py pt : Pos} {kt k2 pt2} (h : tA X [a, b] σ H fun vs H' => ∃ v v2, vs = [v, v2] ∧ ∀ q, H' q = none → tB X rest D' ((σ.set i (some v)).set j (some v2)) (upd H' q (.tup [v, v2])))
    (hc : X.calm = true) (hN : X.N.Nodup) (hi : X.N[i]? = some x := by rfl) (hj : X.N[j]? = some y := by rfl)
    (hx : Loc X.env.scope x := by first | exact Or.inl rfl | exact Or.inr rfl) (hy : Loc X.env.scope y := by first | exact Or.inl rfl | exact Or.inr rfl)
    (hfx : X.fn x = true ∨ X.env.scope.names.lookup x = some .local := by first | exact .inl rfl | exact .inr rfl) (hfy : X.fn y = true ∨ X.env.scope.names.lookup y = some .local := by first | exact .inl rfl | exact .inr rfl)
    (hs : swapsWithSole [.Tuple [.Name x px, .Name y py] kt pt] (.Tuple [a, b] k2 pt2) pos.line X.env = pure false := by rfl) (hw : swappedStores [.Tuple [.Name x px, .Name y py] kt pt] (.Tuple [a, b] k2 pt2) X.env = pure none := by rfl)
    (hh1 : (assignEach [.Tuple [.Name x px, .Name y py] kt pt] X.env).map (·.2) = [assign (.Tuple [.Name x px, .Name y py] kt pt) X.env] := by rfl)
    (hgs : (assignEach [.Name x px, .Name y py] X.env).map (·.2) = assign (.Name x px) X.env :: (assignEach [.Name y py] X.env).map (·.2) := by rfl) (hgs2 : (assignEach [.Name y py] X.env).map (·.2) = assign (.Name y py) X.env :: (assignEach [] X.env).map (·.2) := by rfl)
    (hst : (assignEach [.Name x px, .Name y py] X.env).findIdx? (·.1) = none := by rfl) (hne : (assignEach [.Name x px, .Name y py] X.env).length = 2 := by rfl) :
    tB X (.Assign [.Tuple [.Name x px, .Name y py] kt pt] (.Tuple [a, b] k2 pt2) pos :: rest) D' σ H := by
  refine tB_cons (ps_asg (pe_tup pa_A) (pg_tup hc (pgs_cons (pg_name hN hi hx hfx) (pgs_cons (pg_name hN hj hy hfy) pgs_nil hgs2) hgs) rfl hst) hs hw hh1) (tA_mono h ?_)
  rintro ws H1 ⟨v, v2, rfl, k⟩
  exact ⟨sz_of (by simp), fun q hq => ⟨q, [v, v2], rfl, SqT.of upd_same, by rw [hne]; rfl, v, [v2], rfl, v2, [], rfl, rfl, k q hq⟩⟩
end
end J

set_option maxHeartbeats 4000000
/-! J25: more of values on the way; caught lambdas that change objects; two keywords. -/
namespace J
open PySem PySem.Spec PyProof.Rows L2 Evl RZ LamX
section
variable {K : PySem.W.Frag} {B H H' : Hp} {M0 : List Addr} {ρ : Ro} {μ μ' : Mu} {σ : L2.St} {ts us : List Sv} {vs ws : List V} {s : Sv} {v w : V} {ds es : List D} {d : D}
theorem Sx.take (S : Sx K B M0 ρ μ σ (ts ++ us) (vs ++ ws) H) (hl : ts.length = vs.length) : Sx K B M0 ρ μ σ ts vs H := by
  refine ⟨S.1.reslot (by have := S.2; simp; omega) fun i s h => ?_, S.2⟩
  have hi := (List.getElem?_eq_some_iff.mp h).1
  obtain ⟨v, h1, h2⟩ := S.1.sl i s (by rw [List.map_append, ← List.append_assoc, List.getElem?_append_left hi]; exact h)
  rw [List.map_append, ← List.append_assoc, List.getElem?_append_left (by have := S.2; simp at hi ⊢; omega)] at h1
  exact ⟨v, h1, h2⟩
theorem paired_right {F : Sv → V → Prop} : ∀ {ts us : List Sv} {vs ws : List V}, ts.length = vs.length → Paired F (ts ++ us) (vs ++ ws) → Paired F us ws
  | [], _, [], _, _, p => p
  | [], _, _ :: _, _, h, _ => by simp at h
  | _ :: _, _, [], _, h, _ => by simp at h
  | _ :: ts, us, _ :: vs, ws, h, p => by cases p with | cons _ q => exact paired_right (by simpa using h) q
theorem Sx.right (S : Sx K B M0 ρ μ σ (ts ++ us) (vs ++ ws) H) (hl : ts.length = vs.length) : Paired (fun s v => Sv.holds K (hid (adr M0 μ) H) s v) us ws := paired_right hl S.vals
/-- a computation of any kind lies between -/
theorem Sx.across (S : Sx K B M0 ρ μ σ ts vs H) : Sy K (J.grd μ H) M0 ρ μ σ H ∧ ∀ {ρ' : Ro} {σ' : L2.St} {μ' : Mu} {H' : Hp}, Sy K (J.grd μ H) M0 ρ' μ' σ' H' → Sx K B M0 ρ' μ' σ' ts vs H' := by
  refine ⟨S.base.grd, fun {ρ' σ' μ' H'} S' => ?_⟩
  have low : Ex (hid (adr M0 μ) H) (hid (adr M0 μ') H') := by
    have := S'.low
    rw [grd_low] at this
    exact this
  have hv := S.vals
  have Sb := S'.base S.base.grdB
  have key : ∀ {ts : List Sv} {vs : List V}, Paired (fun s v => Sv.holds K (hid (adr M0 μ) H) s v) ts vs → ∀ {ts0 : List Sv} {vs0 : List V}, Sx K B M0 ρ' μ' σ' ts0 vs0 H' → Sx K B M0 ρ' μ' σ' (ts0 ++ ts) (vs0 ++ vs) H' := by
    intro ts vs h
    induction h with
    | nil => intro ts0 vs0 S0; simpa using S0
    | cons a t ih =>
      intro ts0 vs0 S0
      have := ih (S0.push (Sv.holds.ex a low))
      simpa using this
  have := key hv Sb.sx
  simpa using this
/-- a new tuple of the last ones -/
theorem Sx.mkTup {a : Addr} (S : Sx K B M0 ρ μ σ (ts ++ us) (vs ++ ws) H) (hl : ts.length = vs.length) (hu : us = ds.map .dat) (hn : H a = none) : Sx K B M0 ρ μ σ (ts ++ [.dat (.tuple ds)]) (vs ++ [.ref a]) (upd H a (.tup ws)) := by
  have hr := S.right hl
  subst hu
  have S1 := (S.take hl).ex (Ex.new (o := .tup ws) hn)
  refine S1.push (.tup (SqT.of (S.1.all.newEx hn)) ((dats_of hr).ex (hid_ex (Ex.new hn))))
/-- t + u of the last two -/
theorem Sx.cat (S : Sx K B M0 ρ μ σ (ts ++ [.dat (.tuple ds), .dat (.tuple es)]) (vs ++ [v, w]) H) (hl : ts.length = vs.length) (hz : ds.length + es.length ≤ 90000) {Q : VK} (k : ∀ u H', Sx K B M0 ρ μ σ (ts ++ [.dat (.tuple (ds ++ es))]) (vs ++ [u]) H' → Q u H') : rCatA K v w H Q := by
  have hr := S.right hl
  cases hr with | cons p hr => cases hr with | cons r _ =>
  have p : Dp K _ v (.tuple ds) := p
  have r : Dp K _ w (.tuple es) := r
  obtain ⟨t, xs, e1, e2, e3⟩ := dTup p
  obtain ⟨u, ys, f1, f2, f3⟩ := dTup r
  refine ⟨t, u, xs, ys, e1, f1, ex_t hid_le e2, ex_t hid_le f2, sz_of (by rw [e3.len, f3.len]; omega), fun h0 => ?_, fun _ h0 => ?_, fun _ _ c hc => ?_⟩
  · subst h0
    cases e3
    exact k _ _ ((S.take hl).push (by rw [← f1]; exact r))
  · subst h0
    cases f3
    refine k _ _ ((S.take hl).push ?_)
    rw [List.append_nil]
    exact .tup e2 e3
  · have up := hid_ex (M := adr M0 μ) (Ex.new (o := .tup (xs ++ ys)) hc)
    exact k _ _ (((S.take hl).ex (Ex.new hc)).push (.tup (SqT.of (S.1.all.newEx hc)) ((e3.ex up).append (f3.ex up))))
end
section
variable {X : Cx} {B H : Hp} {M M0 : List Addr} {ρ : Ro} {μ : Mu} {σ : L2.St} {a b c : Expr} {pos p kp1 kp2 : Pos} {d d' d1 d2 : D} {k1 k2 : Bool}
/-- and of three, as a value -/
theorem jd_and3 (ha : Jd X M a σ H (.bool k1)) (hf : k1 = false → d = .bool false) (hb : k1 = true → Jd X M b σ H (.bool k2)) (hf2 : k1 = true → k2 = false → d = .bool false) (hc : k1 = true → k2 = true → Jd X M c σ H d) : Jd X M (.BoolOp .And [a, b, c] pos) σ H d := fun al H1 x Q q =>
  leW (pe_and pe_W (pe_and pe_W (pe_one pe_W))) (ha al H1 x _ fun v H2 y p => ⟨k1, dBl p, by
    cases k1 with
    | true =>
      rw [if_pos rfl]
      exact hb rfl al H2 (x.trans y) _ fun w H3 z r => ⟨k2, dBl r, by
        cases k2 with
        | true => rw [if_pos rfl]; exact hc rfl rfl al H3 ((x.trans y).trans z) _ fun u H4 z2 => q u H4 ((y.trans z).trans z2)
        | false => rw [if_neg Bool.false_ne_true]; rw [hf2 rfl rfl] at q; exact q _ H3 (y.trans z) (.bl _)⟩
    | false => rw [if_neg Bool.false_ne_true]; rw [hf rfl] at q; exact q _ H2 y (.bl _)⟩)
end
section
variable {X : Cx}
/-- .. the lambda's body may change objects: what comes of them is told with the class -/
theorem jm_caughtM {k : Nat} {x a e n f : Str} {CS g c P : Addr} {st : Stmt} {fd : FuncData} {params : Arguments} {body : Expr} {scope : Scope} {p lpos pos : Pos} {j : Nat} {p0 p1 p2 p3 p4 p5 p6 p7 p8 p9 p10 p11 p12 p13 : Pos} {ρ : Ro} {μ : Mu} {σ : L2.St} {H : Hp} {Q : VK}
    (S : Sy X.K (fun _ => none) [] ρ ((P, .tab (X.env.qual ++ "<lambda>")) :: μ) σ H) (hmu : ∀ p ∈ μ, noTab p.2)
    (F : FunD X.K x x (defArgs st) [.Assign [.Name f p0] (.Constant .none j p1) p2, .Try [.Expr (.Call (.Name a p3) [] [] p4) p5] [.ExceptHandler (some (.Name e p6)) (some n) [.Assign [.Name f p7] (.Name n p8) p9] p10] [] [] p11, .Return (some (.Name f p12)) p13] (defScope st) [] [] g fd) (hm : X.mg x = some (.ref g))
    (hbi : ∀ (kV doc pm : Value) (an : Option Addr) (cdv ct : Value) (us : List Value), us.length = [a].length → bindArgs (PySem.W.fnOf x x (defArgs st) [.Assign [.Name f p0] (.Constant .none j p1) p2, .Try [.Expr (.Call (.Name a p3) [] [] p4) p5] [.ExceptHandler (some (.Name e p6)) (some n) [.Assign [.Name f p7] (.Name n p8) p9] p10] [] [] p11, .Return (some (.Name f p12)) p13] (defScope st) .none kV doc pm an cdv ct) ⟨us, []⟩ = pure ([a].zip us))
    (Sg : FnScope [a, f, n] [a] (defScope st)) (hva : Vis (defScope st) a) (hge : (defScope st).names.lookup e = some .globalImplicit) (hme : X.mg e = some (.ref CS)) (hde : (e == ("__debug__" : Str)) = false)
    (hlf : (defScope st).names.lookup f = some .local) (hln : (defScope st).names.lookup n = some .local) (hdf : (f == ("__debug__" : Str)) = false) (hcf : (f == ("__classdict__" : Str)) = false) (hdn : (n == ("__debug__" : Str)) = false) (hcn : (n == ("__classdict__" : Str)) = false)
    (TB : TabB X.base X.mg c P) (hcode : X.env.code = .ref c) (hr : Room (k + 2) X.A) (L : LamS X.env.scope scope)
    (Pc : Value → Mu → Prop) (hbody : ∀ (A : Around) (outer : List Env) (s : Shared) (H0 : Hp) (f' c' : Addr) (H1 : Hp) (E : XK), Room k (A.deeper (lamEnv X scope s.heap.objs.size f' c')) → Sy X.K (fun _ => none) [] ρ ((P, .tab (X.env.qual ++ "<lambda>")) :: μ) σ H1 →
      (∀ cls H' μ', Pc cls μ' → PySem.W.exmOne X.K cls (.ref CS) = some true → Sy X.K (fun _ => none) [] ρ ((P, .tab (X.env.qual ++ "<lambda>")) :: μ') σ H' → E cls none H') → tW (lamCx X A outer s H0 E scope f' c') body σ H1 (fun _ H' => Q .non H'))
    (hQ : ∀ cls v H' μ', Pc cls μ' → PySem.W.exmOne X.K cls (.ref CS) = some true → Sy X.K (fun _ => none) [] ρ ((P, .tab (X.env.qual ++ "<lambda>")) :: μ') σ H' → (Sv.exc cls).holds X.K (hid (adr [] ((P, .tab (X.env.qual ++ "<lambda>")) :: μ')) H') v → Q v H')
    (hg : Gl X x := by rfl) (hdef : defaultsOf params X.env = ([], []) := by rfl) (hbind : ∀ (q : Str) (cl : List (Str × Addr)) (pm cv ctv : Value), bindArgs (PySem.W.kla_fn "<lambda>" q params body scope cl pm cv ctv) ⟨[], []⟩ = pure [] := by intros; rfl)
    (hdb : (x == ("__debug__" : Str)) = false := by decide) (hd : (a == ("__debug__" : Str)) = false := by decide) (hcd : (a == ("__classdict__" : Str)) = false := by decide) : tW X (.Call (.Name x p) [.Lambda params body scope lpos] [] pos) σ H Q := by
  have hb := F.bindsN (ps := [a]) hbi
  obtain ⟨oc, od, dV, kV, doc, pm, an, cdv, ct, osl, efd, lk, hcg, _, _⟩ := F.ex
  subst efd
  refine leW (pe_lamcall (T := [(P, X.env.qual ++ "<lambda>")]) (TT := TCaught X.K CS) (t := tLm X scope body k) hg hm F.kp lk hcg hb Sg rfl hva
    (caught_gives Sg.nd hge hme hde hlf hln hdf hcf hdn hcn) TB hcode List.mem_cons_self (fun p hp _ => by rw [List.mem_singleton.mp hp]) hr L hdef hbind (fun A outer s H0 E f' c' hr' => ⟨fun pins s' σ' H' Q' I h => h A outer s H0 f' c' hr' pins s' I⟩) hdb hd hcd) ⟨S.tabs, fun H1 eN T1 => ?_⟩
  have S1 := S.tabbed hmu eN T1
  intro A outer s H0 f' c' hr'
  refine tW_mono (hbody A outer s H0 f' c' H1 _ hr' S1 fun cls H' μ' hc he S' => ?_) fun v H' q => ⟨.non, rfl, q⟩
  refine ⟨true, he, fun _ ad ha => hQ cls (.ref ad) _ μ' hc he (S'.ex (Ex.new ha)) ⟨ad, rfl, ?_⟩, fun z => by cases z⟩
  rw [hid_out (S'.all.out ha)]
  exact upd_same
end
section
variable {X : Cx} {B H : Hp} {M M0 : List Addr} {ρ : Ro} {μ : Mu} {σ : L2.St} {e e1 e2 : Expr} {es : List Expr} {pos p kp1 kp2 : Pos} {d d1 d2 : D} {k n : Nat} {x p1 p2 : Str} {ps : List Str} {R : List D → D → Prop} {Fl : List D → Value → Prop} {f : Addr} {fd : FuncData}
/-- a call that may raise, its arguments made with effects -/
theorem jx_callE {E : XK} {Q : VK} (F : Fd (CX X.prog X.w) X.prog X.w X.K X.mg X.base k x ps (spX X.K n R Fl)) (hr : Room k X.A) (tk : Takes X (fun cls d _ H => E cls d H)) (ha : tA X (e :: es) σ H fun vs H2 => spX X.K n R Fl vs H2 Q E)
    (hg : Gl X x := by rfl) (hdb : (x == ("__debug__" : Str)) = false := by decide) (he : starEach (e :: es) X.env = (false, eval e X.env) :: starEach es X.env := by rfl) (hpl : (backTo pos (starEach es X.env)).any (·.1) = false := by rfl) : tW X (.Call (.Name x p) (e :: es) [] pos) σ H Q := by
  obtain ⟨f, fd, hm, hk, hb, ok⟩ := F.ex
  refine leW (pe_call (E := E) ok hr hg hm hk hb .nil (passes_call tk fun _ _ _ _ h => h) pa_A hdb he hpl) (tA_mono ha fun vs H2 h => ?_)
  show spX X.K n R Fl (vs ++ []) H2 Q E
  rw [List.append_nil]
  exact h
theorem paired_rev {α β : Type} {F : α → β → Prop} : ∀ {xs : List α} {vs : List β}, Paired F xs vs → Paired F xs.reverse vs.reverse
  | _, _, .nil => .nil
  | _, _, .cons a t => by rw [List.reverse_cons, List.reverse_cons]; exact paired_app (paired_rev t) (.cons a .nil)
/-- two parameters told by keywords, the second one first -/
theorem kbn_rev {K : PySem.W.Frag} {x q : Str} {params : Arguments} {body : List Stmt} {scope : Scope} {f : Addr} {fd : FuncData} {ps ks : List Str} (F : FunD K x q params body scope [] [] f fd)
    (h : ∀ (kV doc pm : Value) (an : Option Addr) (cdv ct : Value) (ws : List Value), ws.length = ks.length → bindArgs (PySem.W.fnOf x q params body scope .none kV doc pm an cdv ct) ⟨[], ks.zip ws⟩ = pure (ps.zip ws.reverse)) : KBn K fd ps 0 ks (fun us ws => us ++ ws.reverse) (fun vs zs => vs ++ zs.reverse) := by
  obtain ⟨oc, od, dV, kV, doc, pm, an, cdv, ct, osl, rfl, lk, hcd, hD, hK⟩ := F.ex
  rcases hD with ⟨_, rfl⟩ | ⟨e, _⟩
  · exact ⟨fun s us ws X l1 l2 => BindsTo.of_looks fun M => PySem.W.Looks.of_pure (by
      have e : us = [] := List.length_eq_zero_iff.mp l1
      subst e
      exact h kV doc pm an cdv ct ws l2), fun r1 r2 => paired_app r1 (paired_rev r2)⟩
  · exact absurd rfl e
theorem jd_callXK2 (ok : FnOk X.prog X.w X.K X.mg X.base (CX X.prog X.w) k f fd [p1, p2] (spX X.K 2 R Fl)) (hm : X.mg x = some (.ref f)) (hk : PySem.W.keepIn X.K (.ref f) = true) (hb : KBn X.K fd [p1, p2] 0 [p2, p1] (fun us ws => us ++ ws.reverse) (fun vs zs => vs ++ zs.reverse)) (hr : Room k X.A)
    (ha : Jd X M e2 σ H d2) (ha1 : Jd X M e1 σ H d1) (hR : R [d1, d2] d) (hg : Gl X x := by rfl) (hdb : (x == ("__debug__" : Str)) = false := by decide)
    (hall : (backToKw pos (keywordEach [⟨some p2, e2, kp2⟩, ⟨some p1, e1, kp1⟩] X.env)).all (·.1.isSome) = true := by rfl) (hks : (backToKw pos (keywordEach [⟨some p2, e2, kp2⟩, ⟨some p1, e1, kp1⟩] X.env)).filterMap (·.1) = [p2, p1] := by rfl)
    (hpl : ((backTo pos (starEach [] X.env)).any (·.1) || (backToKw pos (keywordEach [⟨some p2, e2, kp2⟩, ⟨some p1, e1, kp1⟩] X.env)).any (·.1.isNone)) = false := by rfl) : Jd X M (.Call (.Name x p) [] [⟨some p2, e2, kp2⟩, ⟨some p1, e1, kp1⟩] pos) σ H d := fun al H1 y Q q =>
  leW (pe_callK0 (E := E0) ok hr hg hm hk hb passE0 (pk_cons pe_W (pk_cons pe_W pk_nil)) hall hks hdb hpl) (ha al H1 y _ fun v H2 z r => ha1 al H2 (y.trans z) _ fun v1 H3 z1 r1 => ⟨rfl, M, [d1, d2], rfl, ((al.ex y).ex z).ex z1, .cons r1 (.cons (r.ex (hid_ex z1)) .nil), .inl ⟨d, hR, fun v H4 u t => q v H4 ((z.trans z1).trans u) t⟩⟩)
end
end J

set_option maxHeartbeats 4000000
namespace K89
open PySem PySem.Spec PyProof.Rows L2 J
/-! ### the text, by places -/
def top (i : Nat) : Stmt := PySem.Challenge.pw_judgedalike_k89_whole_orders_of_seats_ju.main.body.getD i (.Pass ⟨0, 0, 0, 0⟩)
abbrev s_is_whole : Stmt := top 8
abbrev N_is_whole : List Str := ["value"]
theorem sc_is_whole : FnScope N_is_whole ["value"] (defScope s_is_whole) := ⟨rfl, rfl, rfl, by decide +kernel, rfl, by decide +kernel, by decide +kernel⟩
abbrev s_is_ratio : Stmt := top 9
abbrev N_is_ratio : List Str := ["value", "part"]
theorem sc_is_ratio : FnScope N_is_ratio ["value"] (defScope s_is_ratio) := ⟨rfl, rfl, rfl, by decide +kernel, rfl, by decide +kernel, by decide +kernel⟩
abbrev s_lowest : Stmt := top 10
abbrev N_lowest : List Str := ["n", "d", "common"]
theorem sc_lowest : FnScope N_lowest ["n", "d"] (defScope s_lowest) := ⟨rfl, rfl, rfl, by decide +kernel, rfl, by decide +kernel, by decide +kernel⟩
abbrev s_plus : Stmt := top 11
abbrev N_plus : List Str := ["one", "other"]
theorem sc_plus : FnScope N_plus ["one", "other"] (defScope s_plus) := ⟨rfl, rfl, rfl, by decide +kernel, rfl, by decide +kernel, by decide +kernel⟩
abbrev s_total : Stmt := top 12
abbrev N_total : List Str := ["ratios", "found", "each"]
theorem sc_total : FnScope N_total ["ratios"] (defScope s_total) := ⟨rfl, rfl, rfl, by decide +kernel, rfl, by decide +kernel, by decide +kernel⟩
abbrev s_are_parts : Stmt := top 16
abbrev N_are_parts : List Str := ["value", "share"]
theorem sc_are_parts : FnScope N_are_parts ["value"] (defScope s_are_parts) := ⟨rfl, rfl, rfl, by decide +kernel, rfl, by decide +kernel, by decide +kernel⟩
abbrev s_need_parts : Stmt := top 17
abbrev N_need_parts : List Str := ["shares"]
theorem sc_need_parts : FnScope N_need_parts ["shares"] (defScope s_need_parts) := ⟨rfl, rfl, rfl, by decide +kernel, rfl, by decide +kernel, by decide +kernel⟩
abbrev s_seats_below : Stmt := top 18
abbrev N_seats_below : List Str := ["share", "count"]
theorem sc_seats_below : FnScope N_seats_below ["share", "count"] (defScope s_seats_below) := ⟨rfl, rfl, rfl, by decide +kernel, rfl, by decide +kernel, by decide +kernel⟩
abbrev s_seats_above : Stmt := top 19
abbrev N_seats_above : List Str := ["share", "count"]
theorem sc_seats_above : FnScope N_seats_above ["share", "count"] (defScope s_seats_above) := ⟨rfl, rfl, rfl, by decide +kernel, rfl, by decide +kernel, by decide +kernel⟩
abbrev s_last_time : Stmt := top 20
abbrev N_last_time : List Str := ["share", "number"]
theorem sc_last_time : FnScope N_last_time ["share", "number"] (defScope s_last_time) := ⟨rfl, rfl, rfl, by decide +kernel, rfl, by decide +kernel, by decide +kernel⟩
abbrev s_Seats___init__ : Stmt := inClass (top 21) 0
abbrev N_Seats___init__ : List Str := ["self", "shares"]
theorem sc_Seats___init__ : FnScope N_Seats___init__ ["self", "shares"] (defScope s_Seats___init__) := ⟨rfl, rfl, rfl, by decide +kernel, rfl, by decide +kernel, by decide +kernel⟩
abbrev s_Seats_next : Stmt := inClass (top 21) 1
abbrev N_Seats_next : List Str := ["self", "best", "place", "share", "number", "due"]
theorem sc_Seats_next : FnScope N_Seats_next ["self"] (defScope s_Seats_next) := ⟨rfl, rfl, rfl, by decide +kernel, rfl, by decide +kernel, by decide +kernel⟩
abbrev s_within : Stmt := top 22
abbrev N_within : List Str := ["shares", "given", "count", "share", "number"]
theorem sc_within : FnScope N_within ["shares", "given", "count"] (defScope s_within) := ⟨rfl, rfl, rfl, by decide +kernel, rfl, by decide +kernel, by decide +kernel⟩
abbrev s_is_quota : Stmt := top 23
abbrev N_is_quota : List Str := ["shares", "value", "given", "count", "place"]
theorem sc_is_quota : FnScope N_is_quota ["shares", "value"] (defScope s_is_quota) := ⟨rfl, rfl, rfl, by decide +kernel, rfl, by decide +kernel, by decide +kernel⟩
abbrev s_first_seats : Stmt := top 24
abbrev N_first_seats : List Str := ["shares", "many", "lap", "seats", "found"]
theorem sc_first_seats : FnScope N_first_seats ["shares", "many"] (defScope s_first_seats) := ⟨rfl, rfl, rfl, by decide +kernel, rfl, by decide +kernel, by decide +kernel⟩
abbrev s_law_begun : Stmt := top 26
abbrev N_law_begun : List Str := ["script", "great", "cell"]
theorem sc_law_begun : FnScope N_law_begun ["script"] (defScope s_law_begun) := ⟨rfl, rfl, rfl, by decide +kernel, rfl, by decide +kernel, by decide +kernel⟩
abbrev s_law_blended : Stmt := top 27
abbrev N_law_blended : List Str := ["state", "prime", "turn", "found", "blend", "cell"]
theorem sc_law_blended : FnScope N_law_blended ["state"] (defScope s_law_blended) := ⟨rfl, rfl, rfl, by decide +kernel, rfl, by decide +kernel, by decide +kernel⟩
abbrev s_law_draw : Stmt := top 28
abbrev N_law_draw : List Str := ["state", "room", "found"]
theorem sc_law_draw : FnScope N_law_draw ["state", "room"] (defScope s_law_draw) := ⟨rfl, rfl, rfl, by decide +kernel, rfl, by decide +kernel, by decide +kernel⟩
abbrev s_law_pick : Stmt := top 29
abbrev N_law_pick : List Str := ["state", "some"]
theorem sc_law_pick : FnScope N_law_pick ["state", "some"] (defScope s_law_pick) := ⟨rfl, rfl, rfl, by decide +kernel, rfl, by decide +kernel, by decide +kernel⟩
abbrev s_law_caught : Stmt := top 30
abbrev N_law_caught : List Str := ["action", "found", "error"]
theorem sc_law_caught : FnScope N_law_caught ["action"] (defScope s_law_caught) := ⟨rfl, rfl, rfl, by decide +kernel, rfl, by decide +kernel, by decide +kernel⟩
abbrev s_law_is_truth : Stmt := top 31
abbrev N_law_is_truth : List Str := ["found", "due"]
theorem sc_law_is_truth : FnScope N_law_is_truth ["found", "due"] (defScope s_law_is_truth) := ⟨rfl, rfl, rfl, by decide +kernel, rfl, by decide +kernel, by decide +kernel⟩
abbrev s_law_same : Stmt := top 32
abbrev N_law_same : List Str := ["found", "due", "waiting", "one", "other", "alike", "key", "left", "right"]
theorem sc_law_same : FnScope N_law_same ["found", "due"] (defScope s_law_same) := ⟨rfl, rfl, rfl, by decide +kernel, rfl, by decide +kernel, by decide +kernel⟩
abbrev s_law_q : Stmt := top 33
abbrev N_law_q : List Str := ["n", "d", "one", "other"]
theorem sc_law_q : FnScope N_law_q ["n", "d"] (defScope s_law_q) := ⟨rfl, rfl, rfl, by decide +kernel, rfl, by decide +kernel, by decide +kernel⟩
abbrev s_law_st_is_whole : Stmt := top 34
abbrev N_law_st_is_whole : List Str := ["value"]
theorem sc_law_st_is_whole : FnScope N_law_st_is_whole ["value"] (defScope s_law_st_is_whole) := ⟨rfl, rfl, rfl, by decide +kernel, rfl, by decide +kernel, by decide +kernel⟩
abbrev s_law_st_parts : Stmt := top 35
abbrev N_law_st_parts : List Str := ["draws", "some", "lap", "each"]
theorem sc_law_st_parts : FnScope N_law_st_parts ["draws"] (defScope s_law_st_parts) := ⟨rfl, rfl, rfl, by decide +kernel, rfl, by decide +kernel, by decide +kernel⟩
abbrev s_law_st_floor : Stmt := top 36
abbrev N_law_st_floor : List Str := ["share", "count"]
theorem sc_law_st_floor : FnScope N_law_st_floor ["share", "count"] (defScope s_law_st_floor) := ⟨rfl, rfl, rfl, by decide +kernel, rfl, by decide +kernel, by decide +kernel⟩
abbrev s_law_st_ceiling : Stmt := top 37
abbrev N_law_st_ceiling : List Str := ["share", "count"]
theorem sc_law_st_ceiling : FnScope N_law_st_ceiling ["share", "count"] (defScope s_law_st_ceiling) := ⟨rfl, rfl, rfl, by decide +kernel, rfl, by decide +kernel, by decide +kernel⟩
abbrev s_law_st_next : Stmt := top 38
abbrev N_law_st_next : List Str := ["shares", "given", "count", "best", "place", "share", "due"]
theorem sc_law_st_next : FnScope N_law_st_next ["shares", "given"] (defScope s_law_st_next) := ⟨rfl, rfl, rfl, by decide +kernel, rfl, by decide +kernel, by decide +kernel⟩
abbrev s_law_keeps : Stmt := top 39
abbrev N_law_keeps : List Str := ["shares", "value", "given", "count", "place", "share", "number"]
theorem sc_law_keeps : FnScope N_law_keeps ["shares", "value"] (defScope s_law_keeps) := ⟨rfl, rfl, rfl, by decide +kernel, rfl, by decide +kernel, by decide +kernel⟩
abbrev s_law_led : Stmt := top 40
abbrev N_law_led : List Str := ["draws", "shares", "many", "count", "given", "found", "some", "place", "share"]
theorem sc_law_led : FnScope N_law_led ["draws", "shares", "many"] (defScope s_law_led) := ⟨rfl, rfl, rfl, by decide +kernel, rfl, by decide +kernel, by decide +kernel⟩
abbrev s_law_changed : Stmt := top 41
abbrev N_law_changed : List Str := ["draws", "told", "many", "places", "at", "other"]
theorem sc_law_changed : FnScope N_law_changed ["draws", "told", "many"] (defScope s_law_changed) := ⟨rfl, rfl, rfl, by decide +kernel, rfl, by decide +kernel, by decide +kernel⟩
abbrev s_law : Stmt := top 42
abbrev N_law : List Str := ["script", "draws", "turn", "long", "shares", "many", "place", "some", "value", "odd", "told", "given", "due", "lap"]
theorem sc_law : FnScope N_law ["script"] (defScope s_law) := ⟨rfl, rfl, rfl, by decide +kernel, rfl, by decide +kernel, by decide +kernel⟩
/-! ### what the top leaves -/
abbrev FnP (K : PySem.W.Frag) (x q : Str) (st : Stmt) (f : Addr) (fd : FuncData) : Prop := FunD K x q (defArgs st) (defBody st) (defScope st) [] [] f fd
structure Tx (K : PySem.W.Frag) (mg : Str → Option Value) : Prop where
  f_is_whole : ∃ fd, FnP K "is_whole" "is_whole" s_is_whole (He.ga K "is_whole") fd ∧ mg "is_whole" = some (.ref (He.ga K "is_whole"))
  f_is_ratio : ∃ fd, FnP K "is_ratio" "is_ratio" s_is_ratio (He.ga K "is_ratio") fd ∧ mg "is_ratio" = some (.ref (He.ga K "is_ratio"))
  f_lowest : ∃ fd, FnP K "lowest" "lowest" s_lowest (He.ga K "lowest") fd ∧ mg "lowest" = some (.ref (He.ga K "lowest"))
  f_plus : ∃ fd, FnP K "plus" "plus" s_plus (He.ga K "plus") fd ∧ mg "plus" = some (.ref (He.ga K "plus"))
  f_total : ∃ fd, FnP K "total" "total" s_total (He.ga K "total") fd ∧ mg "total" = some (.ref (He.ga K "total"))
  f_are_parts : ∃ fd, FnP K "are_parts" "are_parts" s_are_parts (He.ga K "are_parts") fd ∧ mg "are_parts" = some (.ref (He.ga K "are_parts"))
  f_need_parts : ∃ fd, FnP K "need_parts" "need_parts" s_need_parts (He.ga K "need_parts") fd ∧ mg "need_parts" = some (.ref (He.ga K "need_parts"))
  f_seats_below : ∃ fd, FnP K "seats_below" "seats_below" s_seats_below (He.ga K "seats_below") fd ∧ mg "seats_below" = some (.ref (He.ga K "seats_below"))
  f_seats_above : ∃ fd, FnP K "seats_above" "seats_above" s_seats_above (He.ga K "seats_above") fd ∧ mg "seats_above" = some (.ref (He.ga K "seats_above"))
  f_last_time : ∃ fd, FnP K "last_time" "last_time" s_last_time (He.ga K "last_time") fd ∧ mg "last_time" = some (.ref (He.ga K "last_time"))
  f_Seats___init__ : ∃ fd, FnP K "__init__" "Seats.__init__" s_Seats___init__ (He.ma K (He.ga K "Seats") "__init__") fd
  k_Seats___init__ : Mk K (He.ga K "Seats") (He.ma K (He.ga K "Seats") "__init__")
  f_Seats_next : ∃ fd, FnP K "next" "Seats.next" s_Seats_next (He.ma K (He.ga K "Seats") "next") fd
  m_Seats_next : Meth K (He.ga K "Seats") "next" (He.ma K (He.ga K "Seats") "next")
  f_within : ∃ fd, FnP K "within" "within" s_within (He.ga K "within") fd ∧ mg "within" = some (.ref (He.ga K "within"))
  f_is_quota : ∃ fd, FnP K "is_quota" "is_quota" s_is_quota (He.ga K "is_quota") fd ∧ mg "is_quota" = some (.ref (He.ga K "is_quota"))
  f_first_seats : ∃ fd, FnP K "first_seats" "first_seats" s_first_seats (He.ga K "first_seats") fd ∧ mg "first_seats" = some (.ref (He.ga K "first_seats"))
  f_law_begun : ∃ fd, FnP K "_law_begun" "_law_begun" s_law_begun (He.ga K "_law_begun") fd ∧ mg "_law_begun" = some (.ref (He.ga K "_law_begun"))
  f_law_blended : ∃ fd, FnP K "_law_blended" "_law_blended" s_law_blended (He.ga K "_law_blended") fd ∧ mg "_law_blended" = some (.ref (He.ga K "_law_blended"))
  f_law_draw : ∃ fd, FnP K "_law_draw" "_law_draw" s_law_draw (He.ga K "_law_draw") fd ∧ mg "_law_draw" = some (.ref (He.ga K "_law_draw"))
  f_law_pick : ∃ fd, FnP K "_law_pick" "_law_pick" s_law_pick (He.ga K "_law_pick") fd ∧ mg "_law_pick" = some (.ref (He.ga K "_law_pick"))
  f_law_caught : ∃ fd, FnP K "_law_caught" "_law_caught" s_law_caught (He.ga K "_law_caught") fd ∧ mg "_law_caught" = some (.ref (He.ga K "_law_caught"))
  f_law_is_truth : ∃ fd, FnP K "_law_is_truth" "_law_is_truth" s_law_is_truth (He.ga K "_law_is_truth") fd ∧ mg "_law_is_truth" = some (.ref (He.ga K "_law_is_truth"))
  f_law_same : ∃ fd, FnP K "_law_same" "_law_same" s_law_same (He.ga K "_law_same") fd ∧ mg "_law_same" = some (.ref (He.ga K "_law_same"))
  f_law_q : ∃ fd, FnP K "_law_q" "_law_q" s_law_q (He.ga K "_law_q") fd ∧ mg "_law_q" = some (.ref (He.ga K "_law_q"))
  f_law_st_is_whole : ∃ fd, FnP K "_law_st_is_whole" "_law_st_is_whole" s_law_st_is_whole (He.ga K "_law_st_is_whole") fd ∧ mg "_law_st_is_whole" = some (.ref (He.ga K "_law_st_is_whole"))
  f_law_st_parts : ∃ fd, FnP K "_law_st_parts" "_law_st_parts" s_law_st_parts (He.ga K "_law_st_parts") fd ∧ mg "_law_st_parts" = some (.ref (He.ga K "_law_st_parts"))
  f_law_st_floor : ∃ fd, FnP K "_law_st_floor" "_law_st_floor" s_law_st_floor (He.ga K "_law_st_floor") fd ∧ mg "_law_st_floor" = some (.ref (He.ga K "_law_st_floor"))
  f_law_st_ceiling : ∃ fd, FnP K "_law_st_ceiling" "_law_st_ceiling" s_law_st_ceiling (He.ga K "_law_st_ceiling") fd ∧ mg "_law_st_ceiling" = some (.ref (He.ga K "_law_st_ceiling"))
  f_law_st_next : ∃ fd, FnP K "_law_st_next" "_law_st_next" s_law_st_next (He.ga K "_law_st_next") fd ∧ mg "_law_st_next" = some (.ref (He.ga K "_law_st_next"))
  f_law_keeps : ∃ fd, FnP K "_law_keeps" "_law_keeps" s_law_keeps (He.ga K "_law_keeps") fd ∧ mg "_law_keeps" = some (.ref (He.ga K "_law_keeps"))
  f_law_led : ∃ fd, FnP K "_law_led" "_law_led" s_law_led (He.ga K "_law_led") fd ∧ mg "_law_led" = some (.ref (He.ga K "_law_led"))
  f_law_changed : ∃ fd, FnP K "_law_changed" "_law_changed" s_law_changed (He.ga K "_law_changed") fd ∧ mg "_law_changed" = some (.ref (He.ga K "_law_changed"))
  f_law : ∃ fd, FnP K "law" "law" s_law (He.ga K "law") fd ∧ mg "law" = some (.ref (He.ga K "law"))
  n_ValueError : mg "ValueError" = none
  n_abs : mg "abs" = none
  n_all : mg "all" = none
  n_bool : mg "bool" = none
  n_dict : mg "dict" = none
  n_enumerate : mg "enumerate" = none
  n_int : mg "int" = none
  n_isinstance : mg "isinstance" = none
  n_len : mg "len" = none
  n_list : mg "list" = none
  n_min : mg "min" = none
  n_range : mg "range" = none
  n_str : mg "str" = none
  n_sum : mg "sum" = none
  n_tuple : mg "tuple" = none
  n_zip : mg "zip" = none
  c_ZERO : mg "ZERO" = some (.ref (He.ga K "ZERO")) ∧ ∀ H : Hp, SqT K H (He.ga K "ZERO") [.int 0, .int 1]
  c_ONE : mg "ONE" = some (.ref (He.ga K "ONE")) ∧ ∀ H : Hp, SqT K H (He.ga K "ONE") [.int 1, .int 1]
  c_MOST_PLACES : ∃ t, mg "MOST_PLACES" = some (.int 5 t)
  c_MOST_SEATS : ∃ t, mg "MOST_SEATS" = some (.int 400 t)
  i_gcd : mg "gcd" = some (.builtin "math.gcd")
  l_Seats : Cls K (He.ga K "Seats")
  g_Seats : mg "Seats" = some (.ref (He.ga K "Seats"))
  a_Seats_shares : NoAttr K (He.ga K "Seats") "shares"
  a_Seats_given : NoAttr K (He.ga K "Seats") "given"
  a_Seats_count : NoAttr K (He.ga K "Seats") "count"
  x_JudgeError : PySem.W.excIn K (He.ga K "JudgeError") He.veBase "ValueError.__new__" = true ∧ PySem.W.keepIn K (.ref (He.ga K "JudgeError")) = true ∧ PySem.W.subIn K (.ref (He.ga K "JudgeError")) (.type "BaseException") = some true ∧ PySem.W.typeIn K (.ref (He.ga K "JudgeError")) = some (.type "type")
  g_JudgeError : mg "JudgeError" = some (.ref (He.ga K "JudgeError"))
  e_JudgeError : ExcC K (He.ga K "JudgeError")
  j_JudgeError : PySem.W.exmOne K (.ref (He.ga K "JudgeError")) (.ref (He.ga K "JudgeError")) = some true
  s_JudgeError : PySem.W.kitOne K (.ref (He.ga K "JudgeError")) (.ref (He.ga K "JudgeError")) = some true
  x_BadShares : PySem.W.excIn K (He.ga K "BadShares") He.veBase "ValueError.__new__" = true ∧ PySem.W.keepIn K (.ref (He.ga K "BadShares")) = true ∧ PySem.W.subIn K (.ref (He.ga K "BadShares")) (.type "BaseException") = some true ∧ PySem.W.typeIn K (.ref (He.ga K "BadShares")) = some (.type "type")
  g_BadShares : mg "BadShares" = some (.ref (He.ga K "BadShares"))
  e_BadShares : ExcC K (He.ga K "BadShares")
  j_BadShares : PySem.W.exmOne K (.ref (He.ga K "BadShares")) (.ref (He.ga K "JudgeError")) = some true
  s_BadShares : PySem.W.kitOne K (.ref (He.ga K "BadShares")) (.ref (He.ga K "BadShares")) = some true
  x_BadMany : PySem.W.excIn K (He.ga K "BadMany") He.veBase "ValueError.__new__" = true ∧ PySem.W.keepIn K (.ref (He.ga K "BadMany")) = true ∧ PySem.W.subIn K (.ref (He.ga K "BadMany")) (.type "BaseException") = some true ∧ PySem.W.typeIn K (.ref (He.ga K "BadMany")) = some (.type "type")
  g_BadMany : mg "BadMany" = some (.ref (He.ga K "BadMany"))
  e_BadMany : ExcC K (He.ga K "BadMany")
  j_BadMany : PySem.W.exmOne K (.ref (He.ga K "BadMany")) (.ref (He.ga K "JudgeError")) = some true
  s_BadMany : PySem.W.kitOne K (.ref (He.ga K "BadMany")) (.ref (He.ga K "BadMany")) = some true
/-! ### the head's facts -/
def fa : List He.Fa := [.glo "is_whole", .glo "is_ratio", .glo "lowest", .glo "plus", .glo "total", .glo "are_parts", .glo "need_parts", .glo "seats_below", .glo "seats_above", .glo "last_time", .mkr "Seats", .meth "Seats" "next", .glo "within", .glo "is_quota", .glo "first_seats", .glo "_law_begun", .glo "_law_blended", .glo "_law_draw", .glo "_law_pick", .glo "_law_caught", .glo "_law_is_truth", .glo "_law_same", .glo "_law_q", .glo "_law_st_is_whole", .glo "_law_st_parts", .glo "_law_st_floor", .glo "_law_st_ceiling", .glo "_law_st_next", .glo "_law_keeps", .glo "_law_led", .glo "_law_changed", .glo "law", .free "ValueError", .free "abs", .free "all", .free "bool", .free "dict", .free "enumerate", .free "int", .free "isinstance", .free "len", .free "list", .free "min", .free "range", .free "str", .free "sum", .free "tuple", .free "zip", .glo "ZERO", .glo "ONE", .int "MOST_PLACES" 5, .int "MOST_SEATS" 400, .cls "Seats", .glo "Seats", .noat "Seats" "shares", .noat "Seats" "given", .noat "Seats" "count", .exc "JudgeError", .glo "JudgeError", .exm "JudgeError" "JudgeError" true, .exc "BadShares", .glo "BadShares", .exm "BadShares" "JudgeError" true, .exc "BadMany", .glo "BadMany", .exm "BadMany" "JudgeError" true]
def d_is_whole : He.DefD := ⟨("is_whole", none), "is_whole", "is_whole", defArgs s_is_whole, defBody s_is_whole, defScope s_is_whole, [], []⟩
def d_is_ratio : He.DefD := ⟨("is_ratio", none), "is_ratio", "is_ratio", defArgs s_is_ratio, defBody s_is_ratio, defScope s_is_ratio, [], []⟩
def d_lowest : He.DefD := ⟨("lowest", none), "lowest", "lowest", defArgs s_lowest, defBody s_lowest, defScope s_lowest, [], []⟩
def d_plus : He.DefD := ⟨("plus", none), "plus", "plus", defArgs s_plus, defBody s_plus, defScope s_plus, [], []⟩
def d_total : He.DefD := ⟨("total", none), "total", "total", defArgs s_total, defBody s_total, defScope s_total, [], []⟩
def d_are_parts : He.DefD := ⟨("are_parts", none), "are_parts", "are_parts", defArgs s_are_parts, defBody s_are_parts, defScope s_are_parts, [], []⟩
def d_need_parts : He.DefD := ⟨("need_parts", none), "need_parts", "need_parts", defArgs s_need_parts, defBody s_need_parts, defScope s_need_parts, [], []⟩
def d_seats_below : He.DefD := ⟨("seats_below", none), "seats_below", "seats_below", defArgs s_seats_below, defBody s_seats_below, defScope s_seats_below, [], []⟩
def d_seats_above : He.DefD := ⟨("seats_above", none), "seats_above", "seats_above", defArgs s_seats_above, defBody s_seats_above, defScope s_seats_above, [], []⟩
def d_last_time : He.DefD := ⟨("last_time", none), "last_time", "last_time", defArgs s_last_time, defBody s_last_time, defScope s_last_time, [], []⟩
def d_Seats___init__ : He.DefD := ⟨("Seats", some "__init__"), "__init__", "Seats.__init__", defArgs s_Seats___init__, defBody s_Seats___init__, defScope s_Seats___init__, [], []⟩
def d_Seats_next : He.DefD := ⟨("Seats", some "next"), "next", "Seats.next", defArgs s_Seats_next, defBody s_Seats_next, defScope s_Seats_next, [], []⟩
def d_within : He.DefD := ⟨("within", none), "within", "within", defArgs s_within, defBody s_within, defScope s_within, [], []⟩
def d_is_quota : He.DefD := ⟨("is_quota", none), "is_quota", "is_quota", defArgs s_is_quota, defBody s_is_quota, defScope s_is_quota, [], []⟩
def d_first_seats : He.DefD := ⟨("first_seats", none), "first_seats", "first_seats", defArgs s_first_seats, defBody s_first_seats, defScope s_first_seats, [], []⟩
def d_law_begun : He.DefD := ⟨("_law_begun", none), "_law_begun", "_law_begun", defArgs s_law_begun, defBody s_law_begun, defScope s_law_begun, [], []⟩
def d_law_blended : He.DefD := ⟨("_law_blended", none), "_law_blended", "_law_blended", defArgs s_law_blended, defBody s_law_blended, defScope s_law_blended, [], []⟩
def d_law_draw : He.DefD := ⟨("_law_draw", none), "_law_draw", "_law_draw", defArgs s_law_draw, defBody s_law_draw, defScope s_law_draw, [], []⟩
def d_law_pick : He.DefD := ⟨("_law_pick", none), "_law_pick", "_law_pick", defArgs s_law_pick, defBody s_law_pick, defScope s_law_pick, [], []⟩
def d_law_caught : He.DefD := ⟨("_law_caught", none), "_law_caught", "_law_caught", defArgs s_law_caught, defBody s_law_caught, defScope s_law_caught, [], []⟩
def d_law_is_truth : He.DefD := ⟨("_law_is_truth", none), "_law_is_truth", "_law_is_truth", defArgs s_law_is_truth, defBody s_law_is_truth, defScope s_law_is_truth, [], []⟩
def d_law_same : He.DefD := ⟨("_law_same", none), "_law_same", "_law_same", defArgs s_law_same, defBody s_law_same, defScope s_law_same, [], []⟩
def d_law_q : He.DefD := ⟨("_law_q", none), "_law_q", "_law_q", defArgs s_law_q, defBody s_law_q, defScope s_law_q, [], []⟩
def d_law_st_is_whole : He.DefD := ⟨("_law_st_is_whole", none), "_law_st_is_whole", "_law_st_is_whole", defArgs s_law_st_is_whole, defBody s_law_st_is_whole, defScope s_law_st_is_whole, [], []⟩
def d_law_st_parts : He.DefD := ⟨("_law_st_parts", none), "_law_st_parts", "_law_st_parts", defArgs s_law_st_parts, defBody s_law_st_parts, defScope s_law_st_parts, [], []⟩
def d_law_st_floor : He.DefD := ⟨("_law_st_floor", none), "_law_st_floor", "_law_st_floor", defArgs s_law_st_floor, defBody s_law_st_floor, defScope s_law_st_floor, [], []⟩
def d_law_st_ceiling : He.DefD := ⟨("_law_st_ceiling", none), "_law_st_ceiling", "_law_st_ceiling", defArgs s_law_st_ceiling, defBody s_law_st_ceiling, defScope s_law_st_ceiling, [], []⟩
def d_law_st_next : He.DefD := ⟨("_law_st_next", none), "_law_st_next", "_law_st_next", defArgs s_law_st_next, defBody s_law_st_next, defScope s_law_st_next, [], []⟩
def d_law_keeps : He.DefD := ⟨("_law_keeps", none), "_law_keeps", "_law_keeps", defArgs s_law_keeps, defBody s_law_keeps, defScope s_law_keeps, [], []⟩
def d_law_led : He.DefD := ⟨("_law_led", none), "_law_led", "_law_led", defArgs s_law_led, defBody s_law_led, defScope s_law_led, [], []⟩
def d_law_changed : He.DefD := ⟨("_law_changed", none), "_law_changed", "_law_changed", defArgs s_law_changed, defBody s_law_changed, defScope s_law_changed, [], []⟩
def d_law : He.DefD := ⟨("law", none), "law", "law", defArgs s_law, defBody s_law, defScope s_law, [], []⟩
def fn : List He.DefD := [d_is_whole, d_is_ratio, d_lowest, d_plus, d_total, d_are_parts, d_need_parts, d_seats_below, d_seats_above, d_last_time, d_Seats___init__, d_Seats_next, d_within, d_is_quota, d_first_seats, d_law_begun, d_law_blended, d_law_draw, d_law_pick, d_law_caught, d_law_is_truth, d_law_same, d_law_q, d_law_st_is_whole, d_law_st_parts, d_law_st_floor, d_law_st_ceiling, d_law_st_next, d_law_keeps, d_law_led, d_law_changed, d_law]
def ex0 (K : PySem.W.Frag) : Bool := He.tupB K "ZERO" [.int 0, .int 1]
def ex1 (K : PySem.W.Frag) : Bool := He.tupB K "ONE" [.int 1, .int 1]
def ex2 (K : PySem.W.Frag) : Bool := He.eqO (PySem.W.nsIn K mainGlobals "gcd") (some (some (.builtin "math.gcd")))
def ex3 (K : PySem.W.Frag) : Bool := He.eqO (PySem.W.findIn K (.ref (He.ga K "JudgeError")) "__getattribute__") (some (some (.builtin "BaseException.__getattribute__"))) && He.eqO (PySem.W.findIn K (.ref (He.ga K "JudgeError")) "__getattr__") (some none) && decide (PySem.W.subIn K (.ref (He.ga K "JudgeError")) (.type "BaseException") = some true) && PySem.W.hasDictIn K (He.ga K "JudgeError") && He.eqO (PySem.W.findIn K (.ref (He.ga K "JudgeError")) "__class__") (some (some (.builtin "object.__class__"))) && He.eqO (PySem.W.specialIn K (.builtin "object.__class__") "__get__") (some (some (.builtin "getset_descriptor.__get__"))) && decide (PySem.W.takesIn K (.builtin "object.__class__") = some true) && decide (PySem.W.mroIn K (He.ga K "JudgeError") (.type "object") = some true) && decide (PySem.W.kitOne K (.ref (He.ga K "JudgeError")) (.ref (He.ga K "JudgeError")) = some true)
def ex4 (K : PySem.W.Frag) : Bool := He.eqO (PySem.W.findIn K (.ref (He.ga K "BadShares")) "__getattribute__") (some (some (.builtin "BaseException.__getattribute__"))) && He.eqO (PySem.W.findIn K (.ref (He.ga K "BadShares")) "__getattr__") (some none) && decide (PySem.W.subIn K (.ref (He.ga K "BadShares")) (.type "BaseException") = some true) && PySem.W.hasDictIn K (He.ga K "BadShares") && He.eqO (PySem.W.findIn K (.ref (He.ga K "BadShares")) "__class__") (some (some (.builtin "object.__class__"))) && He.eqO (PySem.W.specialIn K (.builtin "object.__class__") "__get__") (some (some (.builtin "getset_descriptor.__get__"))) && decide (PySem.W.takesIn K (.builtin "object.__class__") = some true) && decide (PySem.W.mroIn K (He.ga K "BadShares") (.type "object") = some true) && decide (PySem.W.kitOne K (.ref (He.ga K "BadShares")) (.ref (He.ga K "BadShares")) = some true)
def ex5 (K : PySem.W.Frag) : Bool := He.eqO (PySem.W.findIn K (.ref (He.ga K "BadMany")) "__getattribute__") (some (some (.builtin "BaseException.__getattribute__"))) && He.eqO (PySem.W.findIn K (.ref (He.ga K "BadMany")) "__getattr__") (some none) && decide (PySem.W.subIn K (.ref (He.ga K "BadMany")) (.type "BaseException") = some true) && PySem.W.hasDictIn K (He.ga K "BadMany") && He.eqO (PySem.W.findIn K (.ref (He.ga K "BadMany")) "__class__") (some (some (.builtin "object.__class__"))) && He.eqO (PySem.W.specialIn K (.builtin "object.__class__") "__get__") (some (some (.builtin "getset_descriptor.__get__"))) && decide (PySem.W.takesIn K (.builtin "object.__class__") = some true) && decide (PySem.W.mroIn K (He.ga K "BadMany") (.type "object") = some true) && decide (PySem.W.kitOne K (.ref (He.ga K "BadMany")) (.ref (He.ga K "BadMany")) = some true)
def ex (K : PySem.W.Frag) : Bool := ex0 K && ex1 K && ex2 K && ex3 K && ex4 K && ex5 K
def tf : List He.Defn := [("law", none)]
theorem tx_mk {K : PySem.W.Frag} {h : Heap} {mg : Str → Option Value} (X : K.In h) (G : h.Ns mainGlobals mg) (c : He.SaysD fa fn K) (e : ex K = true) : Tx K mg := by
  unfold ex at e
  simp only [Bool.and_eq_true] at e
  obtain ⟨⟨⟨⟨⟨e0, e1⟩, e2⟩, e3⟩, e4⟩, e5⟩ := e
  have b3 := e3
  unfold ex3 at b3
  simp only [Bool.and_eq_true] at b3
  obtain ⟨⟨⟨⟨⟨⟨⟨⟨u3_1, u3_2⟩, u3_3⟩, u3_4⟩, u3_5⟩, u3_6⟩, u3_7⟩, u3_8⟩, u3_9⟩ := b3
  have b4 := e4
  unfold ex4 at b4
  simp only [Bool.and_eq_true] at b4
  obtain ⟨⟨⟨⟨⟨⟨⟨⟨u4_1, u4_2⟩, u4_3⟩, u4_4⟩, u4_5⟩, u4_6⟩, u4_7⟩, u4_8⟩, u4_9⟩ := b4
  have b5 := e5
  unfold ex5 at b5
  simp only [Bool.and_eq_true] at b5
  obtain ⟨⟨⟨⟨⟨⟨⟨⟨u5_1, u5_2⟩, u5_3⟩, u5_4⟩, u5_5⟩, u5_6⟩, u5_7⟩, u5_8⟩, u5_9⟩ := b5
  exact {
    f_is_whole := (let ⟨fd, F⟩ := c.def_ 0 (d := d_is_whole) rfl; ⟨fd, F, He.glo_ok X G (c.fact 0 (f := .glo "is_whole") rfl)⟩)
    f_is_ratio := (let ⟨fd, F⟩ := c.def_ 1 (d := d_is_ratio) rfl; ⟨fd, F, He.glo_ok X G (c.fact 1 (f := .glo "is_ratio") rfl)⟩)
    f_lowest := (let ⟨fd, F⟩ := c.def_ 2 (d := d_lowest) rfl; ⟨fd, F, He.glo_ok X G (c.fact 2 (f := .glo "lowest") rfl)⟩)
    f_plus := (let ⟨fd, F⟩ := c.def_ 3 (d := d_plus) rfl; ⟨fd, F, He.glo_ok X G (c.fact 3 (f := .glo "plus") rfl)⟩)
    f_total := (let ⟨fd, F⟩ := c.def_ 4 (d := d_total) rfl; ⟨fd, F, He.glo_ok X G (c.fact 4 (f := .glo "total") rfl)⟩)
    f_are_parts := (let ⟨fd, F⟩ := c.def_ 5 (d := d_are_parts) rfl; ⟨fd, F, He.glo_ok X G (c.fact 5 (f := .glo "are_parts") rfl)⟩)
    f_need_parts := (let ⟨fd, F⟩ := c.def_ 6 (d := d_need_parts) rfl; ⟨fd, F, He.glo_ok X G (c.fact 6 (f := .glo "need_parts") rfl)⟩)
    f_seats_below := (let ⟨fd, F⟩ := c.def_ 7 (d := d_seats_below) rfl; ⟨fd, F, He.glo_ok X G (c.fact 7 (f := .glo "seats_below") rfl)⟩)
    f_seats_above := (let ⟨fd, F⟩ := c.def_ 8 (d := d_seats_above) rfl; ⟨fd, F, He.glo_ok X G (c.fact 8 (f := .glo "seats_above") rfl)⟩)
    f_last_time := (let ⟨fd, F⟩ := c.def_ 9 (d := d_last_time) rfl; ⟨fd, F, He.glo_ok X G (c.fact 9 (f := .glo "last_time") rfl)⟩)
    f_Seats___init__ := (let ⟨fd, F⟩ := c.def_ 10 (d := d_Seats___init__) rfl; ⟨fd, F⟩)
    k_Seats___init__ := He.mkr_ok (c.fact 10 (f := .mkr "Seats") rfl)
    f_Seats_next := (let ⟨fd, F⟩ := c.def_ 11 (d := d_Seats_next) rfl; ⟨fd, F⟩)
    m_Seats_next := He.meth_ok (c.fact 11 (f := .meth "Seats" "next") rfl)
    f_within := (let ⟨fd, F⟩ := c.def_ 12 (d := d_within) rfl; ⟨fd, F, He.glo_ok X G (c.fact 12 (f := .glo "within") rfl)⟩)
    f_is_quota := (let ⟨fd, F⟩ := c.def_ 13 (d := d_is_quota) rfl; ⟨fd, F, He.glo_ok X G (c.fact 13 (f := .glo "is_quota") rfl)⟩)
    f_first_seats := (let ⟨fd, F⟩ := c.def_ 14 (d := d_first_seats) rfl; ⟨fd, F, He.glo_ok X G (c.fact 14 (f := .glo "first_seats") rfl)⟩)
    f_law_begun := (let ⟨fd, F⟩ := c.def_ 15 (d := d_law_begun) rfl; ⟨fd, F, He.glo_ok X G (c.fact 15 (f := .glo "_law_begun") rfl)⟩)
    f_law_blended := (let ⟨fd, F⟩ := c.def_ 16 (d := d_law_blended) rfl; ⟨fd, F, He.glo_ok X G (c.fact 16 (f := .glo "_law_blended") rfl)⟩)
    f_law_draw := (let ⟨fd, F⟩ := c.def_ 17 (d := d_law_draw) rfl; ⟨fd, F, He.glo_ok X G (c.fact 17 (f := .glo "_law_draw") rfl)⟩)
    f_law_pick := (let ⟨fd, F⟩ := c.def_ 18 (d := d_law_pick) rfl; ⟨fd, F, He.glo_ok X G (c.fact 18 (f := .glo "_law_pick") rfl)⟩)
    f_law_caught := (let ⟨fd, F⟩ := c.def_ 19 (d := d_law_caught) rfl; ⟨fd, F, He.glo_ok X G (c.fact 19 (f := .glo "_law_caught") rfl)⟩)
    f_law_is_truth := (let ⟨fd, F⟩ := c.def_ 20 (d := d_law_is_truth) rfl; ⟨fd, F, He.glo_ok X G (c.fact 20 (f := .glo "_law_is_truth") rfl)⟩)
    f_law_same := (let ⟨fd, F⟩ := c.def_ 21 (d := d_law_same) rfl; ⟨fd, F, He.glo_ok X G (c.fact 21 (f := .glo "_law_same") rfl)⟩)
    f_law_q := (let ⟨fd, F⟩ := c.def_ 22 (d := d_law_q) rfl; ⟨fd, F, He.glo_ok X G (c.fact 22 (f := .glo "_law_q") rfl)⟩)
    f_law_st_is_whole := (let ⟨fd, F⟩ := c.def_ 23 (d := d_law_st_is_whole) rfl; ⟨fd, F, He.glo_ok X G (c.fact 23 (f := .glo "_law_st_is_whole") rfl)⟩)
    f_law_st_parts := (let ⟨fd, F⟩ := c.def_ 24 (d := d_law_st_parts) rfl; ⟨fd, F, He.glo_ok X G (c.fact 24 (f := .glo "_law_st_parts") rfl)⟩)
    f_law_st_floor := (let ⟨fd, F⟩ := c.def_ 25 (d := d_law_st_floor) rfl; ⟨fd, F, He.glo_ok X G (c.fact 25 (f := .glo "_law_st_floor") rfl)⟩)
    f_law_st_ceiling := (let ⟨fd, F⟩ := c.def_ 26 (d := d_law_st_ceiling) rfl; ⟨fd, F, He.glo_ok X G (c.fact 26 (f := .glo "_law_st_ceiling") rfl)⟩)
    f_law_st_next := (let ⟨fd, F⟩ := c.def_ 27 (d := d_law_st_next) rfl; ⟨fd, F, He.glo_ok X G (c.fact 27 (f := .glo "_law_st_next") rfl)⟩)
    f_law_keeps := (let ⟨fd, F⟩ := c.def_ 28 (d := d_law_keeps) rfl; ⟨fd, F, He.glo_ok X G (c.fact 28 (f := .glo "_law_keeps") rfl)⟩)
    f_law_led := (let ⟨fd, F⟩ := c.def_ 29 (d := d_law_led) rfl; ⟨fd, F, He.glo_ok X G (c.fact 29 (f := .glo "_law_led") rfl)⟩)
    f_law_changed := (let ⟨fd, F⟩ := c.def_ 30 (d := d_law_changed) rfl; ⟨fd, F, He.glo_ok X G (c.fact 30 (f := .glo "_law_changed") rfl)⟩)
    f_law := (let ⟨fd, F⟩ := c.def_ 31 (d := d_law) rfl; ⟨fd, F, He.glo_ok X G (c.fact 31 (f := .glo "law") rfl)⟩)
    n_ValueError := He.free_ok X G (c.fact 32 (f := .free "ValueError") rfl)
    n_abs := He.free_ok X G (c.fact 33 (f := .free "abs") rfl)
    n_all := He.free_ok X G (c.fact 34 (f := .free "all") rfl)
    n_bool := He.free_ok X G (c.fact 35 (f := .free "bool") rfl)
    n_dict := He.free_ok X G (c.fact 36 (f := .free "dict") rfl)
    n_enumerate := He.free_ok X G (c.fact 37 (f := .free "enumerate") rfl)
    n_int := He.free_ok X G (c.fact 38 (f := .free "int") rfl)
    n_isinstance := He.free_ok X G (c.fact 39 (f := .free "isinstance") rfl)
    n_len := He.free_ok X G (c.fact 40 (f := .free "len") rfl)
    n_list := He.free_ok X G (c.fact 41 (f := .free "list") rfl)
    n_min := He.free_ok X G (c.fact 42 (f := .free "min") rfl)
    n_range := He.free_ok X G (c.fact 43 (f := .free "range") rfl)
    n_str := He.free_ok X G (c.fact 44 (f := .free "str") rfl)
    n_sum := He.free_ok X G (c.fact 45 (f := .free "sum") rfl)
    n_tuple := He.free_ok X G (c.fact 46 (f := .free "tuple") rfl)
    n_zip := He.free_ok X G (c.fact 47 (f := .free "zip") rfl)
    c_ZERO := ⟨He.glo_ok X G (c.fact 48 (f := .glo "ZERO") rfl), fun H => He.tupB_ok e0 H⟩
    c_ONE := ⟨He.glo_ok X G (c.fact 49 (f := .glo "ONE") rfl), fun H => He.tupB_ok e1 H⟩
    c_MOST_PLACES := He.int_ok X G (c.fact 50 (f := .int "MOST_PLACES" 5) rfl)
    c_MOST_SEATS := He.int_ok X G (c.fact 51 (f := .int "MOST_SEATS" 400) rfl)
    i_gcd := PySem.W.mg_of X G (He.eqO_ok e2)
    l_Seats := He.cls_ok (c.fact 52 (f := .cls "Seats") rfl)
    g_Seats := He.glo_ok X G (c.fact 53 (f := .glo "Seats") rfl)
    a_Seats_shares := He.noat_ok (c.fact 54 (f := .noat "Seats" "shares") rfl)
    a_Seats_given := He.noat_ok (c.fact 55 (f := .noat "Seats" "given") rfl)
    a_Seats_count := He.noat_ok (c.fact 56 (f := .noat "Seats" "count") rfl)
    x_JudgeError := He.exc_ok (c.fact 57 (f := .exc "JudgeError") rfl)
    g_JudgeError := He.glo_ok X G (c.fact 58 (f := .glo "JudgeError") rfl)
    e_JudgeError := ⟨He.eqO_ok u3_1, He.eqO_ok u3_2, of_decide_eq_true u3_3, u3_4, He.eqO_ok u3_5, He.eqO_ok u3_6, of_decide_eq_true u3_7, of_decide_eq_true u3_8⟩
    j_JudgeError := He.exm_ok (c.fact 59 (f := .exm "JudgeError" "JudgeError" true) rfl)
    s_JudgeError := of_decide_eq_true u3_9
    x_BadShares := He.exc_ok (c.fact 60 (f := .exc "BadShares") rfl)
    g_BadShares := He.glo_ok X G (c.fact 61 (f := .glo "BadShares") rfl)
    e_BadShares := ⟨He.eqO_ok u4_1, He.eqO_ok u4_2, of_decide_eq_true u4_3, u4_4, He.eqO_ok u4_5, He.eqO_ok u4_6, of_decide_eq_true u4_7, of_decide_eq_true u4_8⟩
    j_BadShares := He.exm_ok (c.fact 62 (f := .exm "BadShares" "JudgeError" true) rfl)
    s_BadShares := of_decide_eq_true u4_9
    x_BadMany := He.exc_ok (c.fact 63 (f := .exc "BadMany") rfl)
    g_BadMany := He.glo_ok X G (c.fact 64 (f := .glo "BadMany") rfl)
    e_BadMany := ⟨He.eqO_ok u5_1, He.eqO_ok u5_2, of_decide_eq_true u5_3, u5_4, He.eqO_ok u5_5, He.eqO_ok u5_6, of_decide_eq_true u5_7, of_decide_eq_true u5_8⟩
    j_BadMany := He.exm_ok (c.fact 65 (f := .exm "BadMany" "JudgeError" true) rfl)
    s_BadMany := of_decide_eq_true u5_9
  }
end K89

set_option maxHeartbeats 4000000
namespace K89
open PySem PySem.Spec PyProof.Rows L2 J Evl
variable {P : Program} {w : World} {K : PySem.W.Frag} {mg : Str → Option Value} {base : Heap}
def isW : D → Bool
  | .int _ => true
  | _ => false
theorem fd_is_whole (T : Tx K mg) : Fd CX0 P w K mg base 1 "is_whole" ["value"] (spD K 1 fun ds d => ∃ a, ds = [a] ∧ d = .bool (isW a)) := by
  obtain ⟨fd, F, hm⟩ := T.f_is_whole
  refine fd_mk F hm (ok_D F sc_is_whole rfl fun cdv A outer s H E M vs ds d D' hr hl hR S k _ => ?_) (fun _ _ _ _ _ _ us hl => match us, hl with | [_], _ => rfl)
  obtain ⟨a, rfl, rfl⟩ := hR
  have e3 : isW a = (dIsI a && !dIsB a) := by cases a <;> rfl
  rw [e3] at k
  refine sy_ret S (jd_and (k := dIsI a) (jd_isi T.n_isinstance T.n_int boot_int (S.at 0) (kit_int a)) ?_ fun h => ?_) fun v H' _ => k v H'
  · intro h; rw [h]; rfl
  · rw [h, Bool.true_and]
    exact jd_not (jd_isi T.n_isinstance T.n_bool boot_bool (S.at 0) (kit_bool a))
/-! ### ratios -/
abbrev dq (q : Int × Int) : D := .tuple [.int q.1, .int q.2]
/-- n / d in lowest terms, d not 0 -/
def lowQ (n d : Int) : Int × Int := let c : Int := if 0 < d then ((Nat.gcd n.natAbs d.natAbs : Nat) : Int) else -((Nat.gcd n.natAbs d.natAbs : Nat) : Int); (n / c, d / c)
/-- numbers of at most b bits -/
def Bt (b : Nat) (x : Int) : Prop := x.natAbs < 2 ^ b
theorem fd_lowest (T : Tx K mg) : Fd CX0 P w K mg base 1 "lowest" ["n", "d"] (spD K 2 fun ds r => ∃ n d : Int, ds = [.int n, .int d] ∧ 0 < d ∧ Bt 8000 d ∧ r = dq (lowQ n d)) := by
  obtain ⟨fd, F, hm⟩ := T.f_lowest
  refine fd_mk F hm (ok_D F sc_lowest rfl fun cdv A outer s H E M vs ds d D' hr hl hR S k _ => ?_) (fun _ _ _ _ _ _ us hl => match us, hl with | [_, _], _ => rfl)
  obtain ⟨n, m, rfl, h0, hb, rfl⟩ := hR
  have e : (decide (0 < m)) = true := decide_eq_true h0
  refine sy_set 2 S (d := .int ((Nat.gcd n.natAbs m.natAbs : Nat) : Int)) (jd_if (jt_gt (S.at 1) jd_int) (fun _ => jd_gcd T.i_gcd (S.at 0) (S.at 1)) fun h => ?_) (fun σ1 H1 S1 => ?_) sc_lowest.nd
  · rw [e] at h; cases h
  · have hg : 0 < Nat.gcd n.natAbs m.natAbs := Nat.gcd_pos_of_pos_right _ (by omega)
    have hle : Nat.gcd n.natAbs m.natAbs ≤ m.natAbs := Nat.gcd_le_right _ (by omega)
    have hc : CDivW n ((Nat.gcd n.natAbs m.natAbs : Nat) : Int) := wide_div (by omega) (b := 8000) (by show ((Nat.gcd n.natAbs m.natAbs : Nat) : Int).natAbs < _; unfold Bt at hb; omega) (by decide) (by decide)
    have hc2 : CDivW m ((Nat.gcd n.natAbs m.natAbs : Nat) : Int) := hc
    refine sy_ret S1 (jd_tup (ja_cons (jd_div (S1.at 0) (S1.at 2) hc) (ja_cons (jd_div (S1.at 1) (S1.at 2) hc2) ja_nil))) fun v H' x _ p => k v H' x ?_
    unfold lowQ
    rw [if_pos h0]
    exact p
end K89

set_option maxHeartbeats 4000000
namespace K89
open PySem PySem.Spec PyProof.Rows L2 J Evl
variable {P : Program} {w : World} {K : PySem.W.Frag} {mg : Str → Option Value} {base : Heap}
theorem fm_some (l : List D) : (l.map some).filterMap id = l := by
  induction l with
  | nil => rfl
  | cons a t ih => simp
theorem fm_mapS {α : Type} (f : α → D) (l : List α) : (l.map fun a => some (f a)).filterMap id = l.map f := by
  induction l with
  | nil => rfl
  | cons a t ih => simp
/-- a ratio in lowest terms -/
def isR : D → Bool
  | .tuple [.int n, .int m] => decide (0 < m) && decide (((Nat.gcd n.natAbs m.natAbs : Nat) : Int) = 1)
  | _ => false
theorem all_map {α : Type} (f : α → Bool) (l : List α) : (l.map f).all id = l.all f := by
  induction l with
  | nil => rfl
  | cons a t ih => simp
theorem fd_is_ratio (T : Tx K mg) : Fd CX0 P w K mg base 2 "is_ratio" ["value"] (spD K 1 fun ds d => ∃ a, ds = [a] ∧ (∀ l, a = .tuple l → l.length ≤ 90000) ∧ d = .bool (isR a)) := by
  have W := fd_is_whole (P := P) (w := w) (base := base) T
  obtain ⟨fd, F, hm⟩ := T.f_is_ratio
  refine fd_mk F hm (ok_D F sc_is_ratio rfl fun cdv A outer s H E M vs ds d D' hr hl hR S k _ => ?_) (fun _ _ _ _ _ _ us hl => match us, hl with | [_], _ => rfl)
  obtain ⟨a, rfl, hz, rfl⟩ := hR
  by_cases ht : dIsT a = true
  · obtain ⟨ts, rfl⟩ : ∃ ts, a = .tuple ts := by cases a <;> first | (cases ht; done) | exact ⟨_, rfl⟩
    have hz := hz ts rfl
    refine sy_when (b := !true || (!decide ((ts.length : Int) = 2) || !(ts.map isW).all id)) S (jt_or3 (jt_not (jt_val (jd_isi T.n_isinstance T.n_tuple boot_tuple (S.at 0) (kit_tuple (.tuple ts))))) (fun _ => jt_neI (jd_len T.n_len (S.at 0) (.inl rfl)) jd_int) fun _ _ => jt_not (jt_val (jd_all rfl T.n_all ?_))) (fun h H1 S1 => ?_) (fun h H1 S1 => ?_)
    · refine (sy_lc S (jw_tup (S.at 0)) (ts.map fun d => some (.bool (isW d))) (by simp) hz (fun d ρ => ρ.set 1 (some (.dat d))) (js := [1]) (own := [("part", 1)]) (by simp) ?_ ?_ ?_ (blkOk_by (by rfl)) rfl sc_is_ratio.nd).is ?_
      · rintro _ d ⟨s, H, C, cl, fp, rfl⟩ _
        exact jg_name 1 sc_is_ratio.nd
      · rintro i d o _ B' M' σ' H' h1 h2 ⟨s, H, C, cl, fp, rfl⟩ S'
        rw [List.getElem?_map, h1] at h2
        cases h2
        exact jts_nil
      · rintro i d x _ B' M' σ' H' h1 h2 ⟨s, H, C, cl, fp, rfl⟩ S'
        rw [List.getElem?_map, h1] at h2
        cases h2
        exact jd_call W (hr.mono (by decide)) (ja_cons (S'.at 1) ja_nil) rfl ⟨d, rfl, rfl⟩
      · rw [fm_mapS, List.map_map]; rfl
    · refine sy_ret S1 (d := .bool (isR (.tuple ts))) (jd_bl.is ?_) fun v H' x _ p => k v H' x p
      congr 1
      cases hq : isR (.tuple ts) with
      | false => rfl
      | true =>
        match ts, hq with
        | [.int n, .int m], hq => simp [isW] at h
    · have : ∃ n m : Int, ts = [.int n, .int m] := by
        match ts, h with
        | [a, b], h =>
          have h2 : isW a = true ∧ isW b = true := by simpa using h
          obtain ⟨h3, h4⟩ := h2
          cases a <;> first | (cases h3; done) | (cases b <;> first | (cases h4; done) | exact ⟨_, _, rfl⟩)
        | [], h => simp at h
        | [_], h => simp at h
        | _ :: _ :: _ :: _, h => simp at h; omega
      obtain ⟨n, m, rfl⟩ := this
      refine sy_ret S1 (d := .bool (isR (.tuple [.int n, .int m]))) (jd_and (k := decide (0 < m)) (jd_gt (jd_ixT (n := 1) (S1.at 0) jd_int rfl rfl) jd_int) (fun h => ?_) fun h => ?_) fun v H' x _ p => k v H' x p
      · simp [isR, h]
      · refine (jd_eqI (jd_gcd T.i_gcd (jd_ixT (n := 0) (S1.at 0) jd_int rfl rfl) (jd_ixT (n := 1) (S1.at 0) jd_int rfl rfl)) jd_int).is ?_
        simp only [isR, h, Bool.true_and]
  · have ht : dIsT a = false := by simpa using ht
    refine sy_when (b := !(dIsT a) || (true || true)) S (jt_or3 (jt_not (jt_val (jd_isi T.n_isinstance T.n_tuple boot_tuple (S.at 0) (kit_tuple a)))) (fun z => ?_) fun z _ => ?_) (fun h H1 S1 => ?_) (fun h H1 S1 => ?_)
    · rw [ht] at z; cases z
    · rw [ht] at z; cases z
    · refine sy_ret S1 (d := .bool (isR a)) (jd_bl.is ?_) fun v H' x _ p => k v H' x p
      congr 1
      cases a <;> first | rfl | cases ht
    · rw [ht] at h; cases h
theorem fd_plus (T : Tx K mg) : Fd CX0 P w K mg base 2 "plus" ["one", "other"] (spD K 2 fun ds r => ∃ (p q : Int × Int), ds = [dq p, dq q] ∧ 0 < p.2 ∧ 0 < q.2 ∧ (Bt 4000 p.1 ∧ Bt 4000 p.2) ∧ (Bt 4000 q.1 ∧ Bt 4000 q.2) ∧ r = dq (lowQ (p.1 * q.2 + q.1 * p.2) (p.2 * q.2))) := by
  have W := fd_lowest (P := P) (w := w) (base := base) T
  obtain ⟨fd, F, hm⟩ := T.f_plus
  refine fd_mk F hm (ok_D F sc_plus rfl fun cdv A outer s H E M vs ds d D' hr hl hR S k _ => ?_) (fun _ _ _ _ _ _ us hl => match us, hl with | [_, _], _ => rfl)
  obtain ⟨⟨a, b⟩, ⟨c, e⟩, rfl, h1, h2, ⟨b1, b2⟩, ⟨b3, b4⟩, rfl⟩ := hR
  have m : ∀ {x y : Int}, Bt 4000 x → Bt 4000 y → CMulW x y := fun h1 h2 => wide_mul h1 h2 (by decide) (by decide) (by decide)
  refine sy_ret S (jd_call W (hr.mono (by decide)) (ja_cons (jd_add (jd_mul (jd_ixT (n := 0) (S.at 0) jd_int rfl rfl) (jd_ixT (n := 1) (S.at 1) jd_int rfl rfl) (m b1 b4)) (jd_mul (jd_ixT (n := 0) (S.at 1) jd_int rfl rfl) (jd_ixT (n := 1) (S.at 0) jd_int rfl rfl) (m b3 b2)))
    (ja_cons (jd_mul (jd_ixT (n := 1) (S.at 0) jd_int rfl rfl) (jd_ixT (n := 1) (S.at 1) jd_int rfl rfl) (m b2 b4)) ja_nil)) rfl ⟨_, _, rfl, Int.mul_pos h1 h2, wide_lt b2 b4, rfl⟩) fun v H' x _ p => k v H' x p
end K89

set_option maxHeartbeats 4000000
namespace K89
open PySem PySem.Spec PyProof.Rows L2 J Evl
variable {P : Program} {w : World} {K : PySem.W.Frag} {mg : Str → Option Value} {base : Heap}
def plusQ (p q : Int × Int) : Int × Int := lowQ (p.1 * q.2 + q.1 * p.2) (p.2 * q.2)
def totQ (qs : List (Int × Int)) : Int × Int := qs.foldl plusQ (0, 1)
theorem lowQ_bt {n d : Int} {b : Nat} (h : 0 < d) (hn : Bt b n) (hd : Bt b d) : 0 < (lowQ n d).2 ∧ Bt b (lowQ n d).1 ∧ Bt b (lowQ n d).2 := by
  unfold lowQ
  rw [if_pos h]
  have hg : 0 < Nat.gcd n.natAbs d.natAbs := Nat.gcd_pos_of_pos_right _ (by omega)
  have e1 : ((Nat.gcd n.natAbs d.natAbs : Nat) : Int) ∣ d := Int.ofNat_dvd_left.2 (Nat.gcd_dvd_right _ _)
  have ab : ∀ x : Int, (x / ((Nat.gcd n.natAbs d.natAbs : Nat) : Int)).natAbs ≤ x.natAbs := fun x => Int.natAbs_ediv_le_natAbs _ _
  refine ⟨Int.ediv_pos_of_pos_of_dvd h (Int.natCast_nonneg _) e1, Nat.lt_of_le_of_lt (ab n) hn, Nat.lt_of_le_of_lt (ab d) hd⟩
theorem plusQ_bt {p q : Int × Int} {a b : Nat} (h1 : 0 < p.2) (h2 : 0 < q.2) (p1 : Bt a p.1) (p2 : Bt a p.2) (q1 : Bt b q.1) (q2 : Bt b q.2) : 0 < (plusQ p q).2 ∧ Bt (a + b + 1) (plusQ p q).1 ∧ Bt (a + b + 1) (plusQ p q).2 := by
  have m : ∀ {x y : Int}, Bt a x → Bt b y → Bt (a + b) (x * y) := fun h1 h2 => wide_lt h1 h2
  have e : 2 ^ (a + b + 1) = 2 ^ (a + b) + 2 ^ (a + b) := by rw [Nat.pow_succ]; omega
  refine lowQ_bt (Int.mul_pos h1 h2) ?_ ?_
  · have x := m p1 q2
    have y := m p2 q1
    unfold Bt at x y ⊢
    rw [Int.mul_comm q.1 p.2]
    omega
  · have x := m p2 q2
    unfold Bt at x ⊢
    omega
/-- a small ratio -/
def Sq (q : Int × Int) : Prop := 0 < q.2 ∧ Bt 64 q.1 ∧ Bt 64 q.2
theorem totQ_bt {qs : List (Int × Int)} (h : ∀ q ∈ qs, Sq q) : ∀ i, i ≤ qs.length → 0 < (totQ (qs.take i)).2 ∧ Bt (65 * i + 1) (totQ (qs.take i)).1 ∧ Bt (65 * i + 1) (totQ (qs.take i)).2 := by
  intro i
  induction i with
  | zero => intro _; exact ⟨(by decide : (0 : Int) < 1), (by decide : (0 : Nat) < 2 ^ 1), (by decide : (1 : Nat) < 2 ^ 1)⟩
  | succ i ih =>
    intro hi
    obtain ⟨a, b, c⟩ := ih (by omega)
    have hq : qs[i]? = some qs[i] := List.getElem?_eq_getElem (by omega)
    have e : totQ (qs.take (i + 1)) = plusQ (totQ (qs.take i)) qs[i] := by
      unfold totQ
      rw [List.take_add_one, hq, List.foldl_append]
      rfl
    obtain ⟨s1, s2, s3⟩ := h qs[i] (List.getElem_mem _)
    rw [e]
    have := plusQ_bt a s1 b c s2 s3
    have e2 : 65 * (i + 1) + 1 = 65 * i + 1 + 64 + 1 := by omega
    rw [e2]
    exact this
theorem totQ_succ {qs : List (Int × Int)} {i : Nat} {q : Int × Int} (hq : qs[i]? = some q) : totQ (qs.take (i + 1)) = plusQ (totQ (qs.take i)) q := by
  unfold totQ
  rw [List.take_add_one, hq, List.foldl_append]
  rfl
theorem fd_total (T : Tx K mg) : Fd CX0 P w K mg base 3 "total" ["ratios"] (spD K 1 fun ds r => ∃ qs : List (Int × Int), ds = [.tuple (qs.map dq)] ∧ qs.length ≤ 20 ∧ (∀ q ∈ qs, Sq q) ∧ r = dq (totQ qs)) := by
  have W := fd_plus (P := P) (w := w) (base := base) T
  obtain ⟨fd, F, hm⟩ := T.f_total
  refine fd_mk F hm (ok_D F sc_total rfl fun cdv A outer s H E M vs ds d D' hr hl hR S k _ => ?_) (fun _ _ _ _ _ _ us hl => match us, hl with | [_], _ => rfl)
  obtain ⟨qs, rfl, hz, hs, rfl⟩ := hR
  refine sy_set 1 S (d := dq (0, 1)) (jd_glob T.c_ZERO.1 (v := .ref (He.ga K "ZERO")) rfl (.tup (T.c_ZERO.2 _) (.cons (.int 0) (.cons (.int 1) .nil)))) (fun σ1 H1 S1 => ?_) sc_total.nd
  refine sy_for S1 (jw_tup (S1.at 0)) (fun d ρ => ρ.set 2 (some (.dat d))) (js := [2]) (fun d ρ' _ => jg_name 2 sc_total.nd)
    (fun i ρ' μ' => μ' = [] ∧ ∃ o, ρ' = [some (.dat (.tuple (qs.map dq))), some (.dat (dq (totQ (qs.take i)))), o]) ⟨rfl, _, rfl⟩ ?_ ?_ PassesOwn.never rfl
  · rintro i d ρ' μ' σ' H' B' hd ⟨rfl, o, rfl⟩ hB S2
    rw [List.getElem?_map] at hd
    obtain ⟨q, hq, rfl⟩ := Option.map_eq_some_iff.mp hd
    have hi : i < qs.length := (List.getElem?_eq_some_iff.mp hq).1
    obtain ⟨a, b, c⟩ := totQ_bt hs i (by omega)
    obtain ⟨s1, s2, s3⟩ := hs q (List.mem_of_getElem? hq)
    have up : ∀ {n : Nat} {x : Int}, n ≤ 4000 → Bt n x → Bt 4000 x := fun h1 h2 => Nat.lt_of_lt_of_le h2 (Nat.pow_le_pow_right (by decide) h1)
    refine sy_set 1 S2 (jd_call W (hr.mono (by decide)) (ja_cons (S2.at 1) (ja_cons (S2.at 2) ja_nil)) rfl ⟨totQ (qs.take i), q, rfl, a, s1, ⟨up (by omega) b, up (by omega) c⟩, ⟨up (by decide) s2, up (by decide) s3⟩, rfl⟩) (fun σ3 H3 S3 => tB_nil ?_) sc_total.nd
    exact ⟨_, _, ⟨rfl, _, by rw [totQ_succ hq]; rfl⟩, S3⟩
  · rintro ρ' μ' σ' H' ⟨rfl, o, rfl⟩ S2
    have e : qs.take (qs.map dq).length = qs := by rw [List.length_map, List.take_length]
    rw [e] at S2
    exact sy_ret S2 (S2.at 1) fun v H' x _ p => k v H' x p
end K89

set_option maxHeartbeats 4000000
namespace K89
open PySem PySem.Spec PyProof.Rows L2 J Evl
variable {P : Program} {w : World} {K : PySem.W.Frag} {mg : Str → Option Value} {base : Heap}
/-- a share: a ratio above 0 -/
def isSh : D → Bool
  | .tuple [.int n, .int m] => isR (.tuple [.int n, .int m]) && decide (0 < n)
  | _ => false
def toQ : D → Int × Int
  | .tuple [.int n, .int m] => (n, m)
  | _ => (0, 1)
def isP : D → Bool
  | .tuple l => (decide (1 ≤ (l.length : Int)) && decide ((l.length : Int) ≤ 5)) && (l.all isSh && PyData.eqv (dq (totQ (l.map toQ))) (dq (1, 1)))
  | _ => false
/-- what may be asked -/
def Ask (a : D) : Prop := ∀ l, a = .tuple l → (∀ x ∈ l, (∀ l', x = .tuple l' → l'.length ≤ 90000) ∧ ∀ n m, x = .tuple [.int n, .int m] → Bt 64 n ∧ Bt 64 m)
theorem isSh_q {x : D} (h : isSh x = true) : ∃ q : Int × Int, x = dq q ∧ 0 < q.2 ∧ 0 < q.1 ∧ toQ x = q := by
  unfold isSh at h
  split at h
  · rename_i n m
    simp only [isR, Bool.and_eq_true, decide_eq_true_eq] at h
    exact ⟨(n, m), rfl, h.1.1, h.2, rfl⟩
  · cases h
theorem isSh_of {x : D} (h : isR x = true) : ∃ n m : Int, x = .tuple [.int n, .int m] := by
  unfold isR at h
  split at h
  · exact ⟨_, _, rfl⟩
  · cases h
theorem isSh_no {x : D} (h : isR x = false) : isSh x = false := by
  unfold isSh
  split
  · rw [h]; rfl
  · rfl
theorem fd_are_parts (T : Tx K mg) : Fd CX0 P w K mg base 4 "are_parts" ["value"] (spD K 1 fun ds d => ∃ a, ds = [a] ∧ Ask a ∧ d = .bool (isP a)) := by
  have W1 := fd_is_ratio (P := P) (w := w) (base := base) T
  have W2 := fd_total (P := P) (w := w) (base := base) T
  obtain ⟨fd, F, hm⟩ := T.f_are_parts
  obtain ⟨tok, hmp⟩ := T.c_MOST_PLACES
  refine fd_mk F hm (ok_D F sc_are_parts rfl fun cdv A outer s H E M vs ds d D' hr hl hR S k _ => ?_) (fun _ _ _ _ _ _ us hl => match us, hl with | [_], _ => rfl)
  obtain ⟨a, rfl, hz, rfl⟩ := hR
  by_cases ht : dIsT a = true
  · obtain ⟨ts, rfl⟩ : ∃ ts, a = .tuple ts := by cases a <;> first | (cases ht; done) | exact ⟨_, rfl⟩
    have hz := hz ts rfl
    refine sy_when (b := !true || !(decide (1 ≤ (ts.length : Int)) && decide ((ts.length : Int) ≤ 5))) S (jt_or (jt_not (jt_val (jd_isi T.n_isinstance T.n_tuple boot_tuple (S.at 0) (kit_tuple (.tuple ts))))) (fun _ => jt_not (jt_chain op_le op_le jd_int (jd_len T.n_len (S.at 0) (.inl rfl)) (jd_glob hmp (v := .int 5) ⟨tok, rfl⟩ (.int 5)) (by with_unfolding_all rfl)))) (fun h H1 S1 => ?_) (fun h H1 S1 => ?_)
    · refine sy_ret S1 (d := .bool (isP (.tuple ts))) (jd_bl.is ?_) fun v H' x _ p => k v H' x p
      congr 1
      have h : (decide (1 ≤ (ts.length : Int)) && decide ((ts.length : Int) ≤ 5)) = false := by rw [Bool.not_true, Bool.false_or, Bool.not_eq_true'] at h; exact h
      show false = (_ && _)
      rw [h]; rfl
    · have h : (decide (1 ≤ (ts.length : Int)) && decide ((ts.length : Int) ≤ 5)) = true := by rw [Bool.not_true, Bool.false_or, Bool.not_eq_false'] at h; exact h
      have h2 : ts.length ≤ 5 := by simp at h; omega
      have e : isP (.tuple ts) = (ts.all isSh && PyData.eqv (dq (totQ (ts.map toQ))) (dq (1, 1))) := by
        show (_ && _) = _
        rw [h]; rfl
      rw [e] at k
      refine sy_ret S1 (jd_and (k := ts.all isSh) ?_ (fun q => by rw [q]; rfl) fun q => ?_) fun v H' x _ p => k v H' x p
      · refine (jd_all (bs := ts.map isSh) rfl T.n_all ?_).is (by rw [all_map])
        refine (sy_lc S1 (jw_tup (S1.at 0)) (ts.map fun d => some (.bool (isSh d))) (by simp) (by omega) (fun d ρ => ρ.set 1 (some (.dat d))) (js := [1]) (own := [("share", 1)]) (by simp) ?_ ?_ ?_ (blkOk_by (by rfl)) rfl sc_are_parts.nd).is ?_
        · rintro _ d ⟨s, H, C, cl, fp, rfl⟩ _
          exact jg_name 1 sc_are_parts.nd
        · rintro i d o _ B' M' σ' H' h1 h2 ⟨s, H, C, cl, fp, rfl⟩ S'
          rw [List.getElem?_map, h1] at h2
          cases h2
          exact jts_nil
        · rintro i d x _ B' M' σ' H' h1 h2 ⟨s, H, C, cl, fp, rfl⟩ S'
          rw [List.getElem?_map, h1] at h2
          cases h2
          have hd := hz d (List.mem_of_getElem? h1)
          refine jd_and (k := isR d) (jd_call W1 (hr.mono (by decide)) (ja_cons (S'.at 1) ja_nil) rfl ⟨d, rfl, hd.1, rfl⟩) (fun q => by rw [isSh_no q]) fun q => ?_
          obtain ⟨n, m, rfl⟩ := isSh_of q
          refine (jd_gt (jd_ixT (n := 0) (S'.at 1) jd_int rfl rfl) jd_int).is ?_
          show _ = PyData.bool (_ && _)
          rw [q, Bool.true_and]
        · rw [fm_mapS, List.map_map]; rfl
      · rw [q, Bool.true_and]
        have hq : ∀ x ∈ ts, isSh x = true := fun x hx => List.all_eq_true.mp q x hx
        have e1 : (ts.map toQ).map dq = ts := by
          rw [List.map_map]
          refine (List.map_congr_left fun x hx => ?_).trans (List.map_id ts)
          obtain ⟨z, rfl, _, _, e⟩ := isSh_q (hq x hx)
          show dq (toQ (dq z)) = dq z
          rw [e]
        refine jd_eq hr.units (jd_call W2 (hr.mono (by decide)) (ja_cons (S1.at 0) ja_nil) rfl ⟨ts.map toQ, by rw [e1], by simp; omega, fun z hz' => ?_, rfl⟩) (jd_glob T.c_ONE.1 (v := .ref (He.ga K "ONE")) rfl (.tup (T.c_ONE.2 _) (.cons (.int 1) (.cons (.int 1) .nil))))
        obtain ⟨x, hx, rfl⟩ := List.mem_map.mp hz'
        obtain ⟨y, rfl, h3, _, e⟩ := isSh_q (hq x hx)
        have hb := (hz (dq y) hx).2 y.1 y.2 rfl
        rw [e]
        exact ⟨h3, hb.1, hb.2⟩
  · have ht : dIsT a = false := by simpa using ht
    refine sy_when (b := !(dIsT a) || true) S (jt_or (jt_not (jt_val (jd_isi T.n_isinstance T.n_tuple boot_tuple (S.at 0) (kit_tuple a)))) (fun z => ?_)) (fun h H1 S1 => ?_) (fun h H1 S1 => ?_)
    · rw [ht] at z; cases z
    · refine sy_ret S1 (d := .bool (isP a)) (jd_bl.is ?_) fun v H' x _ p => k v H' x p
      congr 1
      cases a <;> first | rfl | cases ht
    · rw [ht] at h; cases h
theorem fd_need_parts (T : Tx K mg) : Fd (CX P w) P w K mg base 5 "need_parts" ["shares"] (spX K 1 (fun ds d => ∃ a, ds = [a] ∧ Ask a ∧ isP a = true ∧ d = .none) fun ds c => ∃ a, ds = [a] ∧ Ask a ∧ isP a = false ∧ c = .ref (He.ga K "BadShares")) := by
  have W := fd_are_parts (P := P) (w := w) (base := base) T
  obtain ⟨fd, F, hm⟩ := T.f_need_parts
  refine fd_mk F hm (ok_X F sc_need_parts rfl fun cdv A outer s H E M vs ds D' hr hl S hR => ?_) (fun _ _ _ _ _ _ us hl => match us, hl with | [_], _ => rfl)
  obtain ⟨a, rfl, hz⟩ : ∃ a, ds = [a] ∧ Ask a := by
    rcases hR with ⟨d, ⟨a, h1, h2, _⟩, _⟩ | ⟨c, ⟨a, h1, h2, _⟩, _⟩ <;> exact ⟨a, h1, h2⟩
  refine sy_when S (jt_not (jt_val (jd_call W (hr.mono (by decide)) (ja_cons (S.at 0) ja_nil) rfl ⟨a, rfl, hz, rfl⟩))) (fun h H1 S1 => ?_) (fun h H1 S1 => ?_)
  · rcases hR with ⟨d, ⟨_, h1, _, h3, _⟩, _⟩ | ⟨c, ⟨_, h1, h2, h3, rfl⟩, kE⟩
    · cases h1
      rw [h3] at h; cases h
    · exact tB_raiseV T.x_BadShares T.g_BadShares bodyE_tk (kE H1 S1.bs)
  · rcases hR with ⟨d, ⟨_, h1, _, h3, rfl⟩, _, kn⟩ | ⟨c, ⟨_, h1, h2, h3, rfl⟩, kE⟩
    · exact tB_nil (kn rfl _ _ S1.bs)
    · cases h1
      rw [h3] at h; cases h
theorem fd_last_time (T : Tx K mg) : Fd CX0 P w K mg base 1 "last_time" ["share", "number"] (spD K 2 fun ds r => ∃ (q : Int × Int) (n : Int), ds = [dq q, .int n] ∧ 0 < q.1 ∧ Bt 64 q.1 ∧ Bt 64 q.2 ∧ Bt 64 (n + 1) ∧ r = .int (-(-(n + 1) * q.2 / q.1))) := by
  obtain ⟨fd, F, hm⟩ := T.f_last_time
  refine fd_mk F hm (ok_D F sc_last_time rfl fun cdv A outer s H E M vs ds d D' hr hl hR S k _ => ?_) (fun _ _ _ _ _ _ us hl => match us, hl with | [_, _], _ => rfl)
  obtain ⟨q, n, rfl, h0, b1, b2, b3, rfl⟩ := hR
  refine sy_ret S (jd_neg (jd_div (jd_mul (jd_neg (jd_add (S.at 1) jd_int)) (jd_ixT (n := 1) (S.at 0) jd_int rfl rfl) (wide_mul (a := 64) (by rw [Int.natAbs_neg]; exact b3) b2 (by decide) (by decide) (by decide))) (jd_ixT (n := 0) (S.at 0) jd_int rfl rfl) (wide_div h0 b1 (by decide) (by decide)))) fun v H' x _ p => k v H' x p
end K89

set_option maxHeartbeats 4000000
namespace K89
open PySem PySem.Spec PyProof.Rows L2 J Evl
variable {P : Program} {w : World} {K : PySem.W.Frag} {mg : Str → Option Value} {base : Heap}
abbrev qD (qs : List (Int × Int)) : D := .tuple (qs.map dq)
abbrev gD (gs : List Int) : D := .tuple (gs.map PyData.int)
def seatsF (sh g : D) (c : Int) : List (Str × Sv) := [("shares", .dat sh), ("given", .dat g), ("count", .dat (.int c))]
theorem put1 {s t : Sv} : putFS "given" s [(("shares" : Str), t)] = [(("shares" : Str), t), (("given" : Str), s)] := by
  unfold putFS; rw [if_neg (by decide)]; rfl
theorem put2 {s t u : Sv} : putFS "count" s [(("shares" : Str), t), (("given" : Str), u)] = [(("shares" : Str), t), (("given" : Str), u), (("count" : Str), s)] := by
  unfold putFS; rw [if_neg (by decide)]; unfold putFS; rw [if_neg (by decide)]; rfl
theorem put3 {sh g g' : D} {c : Int} : putFS "given" (.dat g') (seatsF sh g c) = seatsF sh g' c := by
  unfold seatsF putFS; rw [if_neg (by decide)]; unfold putFS; rw [if_pos rfl]
theorem put4 {sh g : D} {c c' : Int} : putFS "count" (.dat (.int c')) (seatsF sh g c) = seatsF sh g c' := by
  unfold seatsF putFS; rw [if_neg (by decide)]; unfold putFS; rw [if_neg (by decide)]; unfold putFS; rw [if_pos rfl]
theorem lk_sh {sh g : D} {c : Int} : (seatsF sh g c).lookup ("shares" : Str) = some (Sv.dat sh) := rfl
theorem lk_gi {sh g : D} {c : Int} : (seatsF sh g c).lookup ("given" : Str) = some (Sv.dat g) := rfl
theorem lk_co {sh g : D} {c : Int} : (seatsF sh g c).lookup ("count" : Str) = some (Sv.dat (.int c)) := rfl
/-! ### Seats -/
abbrev cS (K : PySem.W.Frag) : Addr := He.ga K "Seats"
def PreI (K : PySem.W.Frag) : List Sv → Mu → Prop := fun ss μ => ∃ x dx a, ss = [.val (.ref x), .dat a] ∧ μ = [(x, .ins (cS K) dx [])] ∧ Ask a
def RI (K : PySem.W.Frag) : List Sv → Mu → Sv → Mu → Prop := fun ss μ s μ' => s = .dat .none ∧ ∃ x dx l, ss = [.val (.ref x), .dat (.tuple l)] ∧ μ = [(x, .ins (cS K) dx [])] ∧ isP (.tuple l) = true ∧ μ' = [(x, .ins (cS K) dx (seatsF (.tuple l) (.tuple (List.replicate l.length (.int 0))) 0))]
def FlI (K : PySem.W.Frag) : List Sv → Mu → Value → Prop := fun ss _ cls => ∃ x a, ss = [x, .dat a] ∧ isP a = false ∧ cls = .ref (He.ga K "BadShares")
theorem isP_tup {a : D} (h : isP a = true) : ∃ l, a = .tuple l ∧ 1 ≤ l.length ∧ l.length ≤ 5 := by
  unfold isP at h
  split at h
  · rename_i l
    simp only [Bool.and_eq_true, decide_eq_true_eq] at h
    exact ⟨l, rfl, by omega, by omega⟩
  · cases h
theorem ok_initF (T : Tx K mg) : ∃ fd, FnOk P w K mg base (CX P w) 6 (He.ma K (cS K) "__init__") fd ["self", "shares"] (spM K 2 (PreI K) (RI K) (FlI K)) ∧ Binds K fd ["self", "shares"] [] ∧ FnP K "__init__" "Seats.__init__" s_Seats___init__ (He.ma K (cS K) "__init__") fd := by
  have W := fd_need_parts (P := P) (w := w) (base := base) T
  obtain ⟨fd, F⟩ := T.f_Seats___init__
  refine ⟨fd, ok_MX F sc_Seats___init__ rfl fun cdv A outer s H E B M0 vs ss μ D' hr hl hP S k kn kE => ?_, F.bindsN fun _ _ _ _ _ _ us hl => match us, hl with | [_, _], _ => rfl, F⟩
  obtain ⟨x, dx, a, rfl, rfl, hz⟩ := hP
  cases hp : isP a with
  | false => exact tB_exprX (jx_call W (hr.mono (by decide)) bodyE_tk S.all (ja_cons (S.at 1) ja_nil) rfl ⟨a, rfl, hz, hp, rfl⟩ fun H' x => kE _ H' ⟨_, a, rfl, hp, rfl⟩ (S.bs.trans x))
  | true =>
    obtain ⟨l, rfl, l1, l5⟩ := isP_tup hp
    refine sy_expr S (jd_callX W (hr.mono (by decide)) (ja_cons (S.at 1) ja_nil) rfl ⟨_, rfl, hz, hp, rfl⟩) fun H1 S1 => ?_
    refine sy_fldset S1 (S1.at 1).js (S1.atV 0) (i := 0) rfl T.l_Seats T.a_Seats_shares (by simp) fun H2 S2 => ?_
    have S2 : Sy K B M0 _ [(x, .ins (cS K) dx [(("shares" : Str), .dat (.tuple l))])] _ H2 := S2
    refine sy_fldset S2 (jd_repT (jd_tup (ja_cons jd_int ja_nil)) (jd_len T.n_len (S2.at 1) (.inl rfl)) (by omega) (by omega)).js (S2.atV 0) (i := 0) rfl T.l_Seats T.a_Seats_given (by simp) fun H3 S3 => ?_
    have S3 : Sy K B M0 _ [(x, .ins (cS K) dx (putFS "given" (.dat (.tuple (List.replicate ((l.length : Int)).toNat (.int 0)))) [(("shares" : Str), .dat (.tuple l))]))] _ H3 := S3
    rw [put1, Int.toNat_natCast] at S3
    refine sy_fldset S3 jd_int.js (S3.atV 0) (i := 0) rfl T.l_Seats T.a_Seats_count (by simp) fun H4 S4 => ?_
    have S4 : Sy K B M0 _ [(x, .ins (cS K) dx (putFS "count" (.dat (.int 0)) [(("shares" : Str), .dat (.tuple l)), (("given" : Str), .dat (.tuple (List.replicate l.length (.int 0))))]))] _ H4 := S4
    rw [put2] at S4
    exact tB_nil (kn _ _ _ _ ⟨rfl, x, dx, l, rfl, rfl, hp, rfl⟩ S4)
theorem ok_init (T : Tx K mg) : ∃ fd, FnOk P w K mg base (CX P w) 6 (He.ma K (cS K) "__init__") fd ["self", "shares"] (spM K 2 (PreI K) (RI K) (FlI K)) ∧ Binds K fd ["self", "shares"] [] := by
  obtain ⟨fd, a, b, _⟩ := ok_initF (P := P) (w := w) (base := base) T
  exact ⟨fd, a, b⟩
end K89

set_option maxHeartbeats 4000000
namespace K89
open PySem PySem.Spec PyProof.Rows L2 J Evl
variable {P : Program} {w : World} {K : PySem.W.Frag} {mg : Str → Option Value} {base : Heap}
/-! ### the next place -/
def dueF (q : Int × Int) (g : Int) : Int := -(-(g + 1) * q.2 / q.1)
def mayF (q : Int × Int) (g c : Int) : Bool := decide (g * q.2 < q.1 * (c + 1))
def better (due : Int) : Option (Int × Int) → Bool
  | none => true
  | some b => decide (due < b.1)
def bestStep (q : Int × Int) (g c : Int) (i : Nat) (b : Option (Int × Int)) : Option (Int × Int) := if mayF q g c && better (dueF q g) b then some (dueF q g, (i : Int)) else b
def bestAt (qs : List (Int × Int)) (gs : List Int) (c : Int) : Nat → Option (Int × Int)
  | 0 => none
  | i + 1 => match qs[i]?, gs[i]? with
    | some q, some g => bestStep q g c i (bestAt qs gs c i)
    | _, _ => bestAt qs gs c i
def bD : Option (Int × Int) → D
  | none => .none
  | some b => .tuple [.int b.1, .int b.2]
/-- shares that may be given seats -/
def Sh (qs : List (Int × Int)) : Prop := 1 ≤ qs.length ∧ qs.length ≤ 5 ∧ ∀ q ∈ qs, Sq q ∧ 0 < q.1
def Gv (gs : List Int) : Prop := ∀ g ∈ gs, 0 ≤ g ∧ g < 2 ^ 60
def PreN (K : PySem.W.Frag) : List Sv → Mu → Prop := fun ss μ => ∃ x dx qs gs c b, ss = [.val (.ref x)] ∧ μ = [(x, .ins (cS K) dx (seatsF (qD qs) (gD gs) c))] ∧ Sh qs ∧ Gv gs ∧ gs.length = qs.length ∧ 0 ≤ c ∧ c < 2 ^ 60 ∧ bestAt qs gs c qs.length = some b
def RN (K : PySem.W.Frag) : List Sv → Mu → Sv → Mu → Prop := fun ss μ s μ' => ∃ x dx qs gs c b p g, ss = [.val (.ref x)] ∧ μ = [(x, .ins (cS K) dx (seatsF (qD qs) (gD gs) c))] ∧ bestAt qs gs c qs.length = some b ∧ b.2 = ((p : Nat) : Int) ∧ gs[p]? = some g ∧ s = .dat (.int p) ∧ μ' = [(x, .ins (cS K) dx (seatsF (qD qs) (gD (gs.set p (g + 1))) (c + 1)))]
theorem bestAt_lt {qs : List (Int × Int)} {gs : List Int} {c : Int} : ∀ {i : Nat} {b : Int × Int}, bestAt qs gs c i = some b → ∃ p : Nat, b.2 = (p : Int) ∧ p < i ∧ p < gs.length
  | 0, _, h => by cases h
  | i + 1, b, h => by
    unfold bestAt at h
    split at h
    · rename_i q g h1 h2
      unfold bestStep at h
      split at h
      · cases h
        exact ⟨i, rfl, by omega, (List.getElem?_eq_some_iff.mp h2).1⟩
      · obtain ⟨p, a, z, y⟩ := bestAt_lt h
        exact ⟨p, a, by omega, y⟩
    · obtain ⟨p, a, z, y⟩ := bestAt_lt h
      exact ⟨p, a, by omega, y⟩
theorem bt_of {x : Int} {b : Nat} (h0 : -(2 ^ b : Int) < x) (h : x < 2 ^ b) : Bt b x := by
  have e : ((2 ^ b : Nat) : Int) = 2 ^ b := by simp
  unfold Bt
  omega
theorem jd_gi {X : Cx} {M : List Addr} {a b : Expr} {σ : L2.St} {H : Hp} {gs : List Int} {i : Nat} {g z : Int} {pos : Pos} (ha : Jd X M a σ H (gD gs)) (hb : Jd X M b σ H (.int z)) (hz : z = (i : Int)) (hg : gs[i]? = some g) (hx : PlainIx b := by exact fun _ _ => rfl) : Jd X M (.Subscript a b pos) σ H (.int g) :=
  jd_ixT ha hb hz (by rw [List.getElem?_map, hg]; rfl) hx
theorem set_cut {α : Type} : ∀ {xs : List α} {p : Nat} {x : α}, p < xs.length → xs.take p ++ [x] ++ xs.drop (p + 1) = xs.set p x
  | a :: xs, 0, x, _ => by simp
  | a :: xs, p + 1, x, h => by
    have := set_cut (xs := xs) (p := p) (x := x) (by simpa using h)
    simp only [List.take_succ_cons, List.drop_succ_cons, List.set_cons_succ, List.cons_append]
    rw [← this]
theorem ok_next (T : Tx K mg) : ∃ fd, FnOk P w K mg base CX0 2 (He.ma K (cS K) "next") fd ["self"] (spM K 1 (PreN K) (RN K) noF) ∧ Binds K fd ["self"] [] := by
  have W := fd_last_time (P := P) (w := w) (base := base) T
  obtain ⟨fd, F⟩ := T.f_Seats_next
  refine ⟨fd, ok_M F sc_Seats_next rfl fun cdv A outer s H E B M0 vs ss μ D' hr hl hP S k kn => ?_, F.bindsN fun _ _ _ _ _ _ us hl => match us, hl with | [_], _ => rfl⟩
  obtain ⟨x, dx, qs, gs, c, b, rfl, rfl, hS, hG, hlen, c0, c6, hb⟩ := hP
  obtain ⟨l1, l5, hq⟩ := hS
  refine sy_set 1 S jd_non (fun σ1 H1 S1 => ?_) sc_Seats_next.nd
  refine sy_for S1 (jw_enumT T.n_enumerate (js_fld S1 (S1.atV 0) (i := 0) rfl lk_sh T.l_Seats T.a_Seats_shares)) (fun d ρ => match d with | .tuple [i, q] => (ρ.set 2 (some (.dat i))).set 3 (some (.dat q)) | _ => ρ) (js := [2, 3])
    (fun d ρ' hd => ?_) (fun i ρ' μ' => μ' = [(x, .ins (cS K) dx (seatsF (qD qs) (gD gs) c))] ∧ ∃ o2 o3 o4 o5, ρ' = [some (.val (.ref x)), some (.dat (bD (bestAt qs gs c i))), o2, o3, o4, o5]) ⟨rfl, _, _, _, _, rfl⟩ ?_ ?_ PassesOwn.never rfl
  · obtain ⟨i, hi⟩ := List.mem_iff_getElem?.mp hd
    obtain ⟨a, q, h1, h2, rfl⟩ := zipD_get hi
    exact jg_tup rfl (jgs_cons (jg_name 2 sc_Seats_next.nd) (jgs_cons (jg_name 3 sc_Seats_next.nd) jgs_nil))
  · rintro i d ρ' μ' σ' H' B' hd ⟨rfl, o2, o3, o4, o5, rfl⟩ hB S2
    obtain ⟨a, q, h1, h2, rfl⟩ := zipD_get hd
    obtain ⟨hi, rfl⟩ := rgD_get h1
    rw [List.getElem?_map] at h2
    obtain ⟨q, h2q, rfl⟩ := Option.map_eq_some_iff.mp h2
    clear h2
    have h2 := h2q
    clear h2q
    rw [List.length_map] at hi
    have hgi : i < gs.length := by omega
    obtain ⟨g, hg⟩ : ∃ g, gs[i]? = some g := ⟨gs[i], List.getElem?_eq_getElem hgi⟩
    obtain ⟨⟨q0, qb1, qb2⟩, qn⟩ := hq q (List.mem_of_getElem? h2)
    obtain ⟨g0, g6⟩ := hG g (List.mem_of_getElem? hg)
    have e : bestAt qs gs c (i + 1) = bestStep q g c i (bestAt qs gs c i) := by
      show (match qs[i]?, gs[i]? with | some q, some g => bestStep q g c i (bestAt qs gs c i) | _, _ => bestAt qs gs c i) = _
      rw [h2, hg]
    rw [Int.zero_add] at S2
    have bg : Bt 64 g := bt_of (by omega) (by omega)
    have bg1 : Bt 64 (g + 1) := bt_of (by omega) (by omega)
    have bc1 : Bt 64 (c + 1) := bt_of (by omega) (by omega)
    refine sy_set 4 S2 (jd_gi (js_fld S2 (S2.atV 0) (i := 0) rfl lk_gi T.l_Seats T.a_Seats_given) (S2.at 2) rfl hg) (fun σ3 H3 S3 => ?_) sc_Seats_next.nd
    refine sy_when S3 (b := mayF q g c) (jt_lt (jd_mul (S3.at 4) (jd_ixT (n := 1) (S3.at 3) jd_int rfl rfl) (wide_mul bg qb2 (by decide) (by decide) (by decide))) (jd_mul (jd_ixT (n := 0) (S3.at 3) jd_int rfl rfl) (jd_add (js_fld S3 (S3.atV 0) (i := 0) rfl lk_co T.l_Seats T.a_Seats_count) jd_int) (wide_mul qb1 bc1 (by decide) (by decide) (by decide)))) (fun hm H4 S4 => ?_) (fun hm H4 S4 => tB_nil ⟨_, _, ⟨rfl, _, _, _, _, by rw [e]; unfold bestStep; rw [hm]; rfl⟩, S4⟩)
    refine sy_set 5 S4 (jd_call W (hr.mono (by decide)) (ja_cons (S4.at 3) (ja_cons (S4.at 4) ja_nil)) rfl ⟨q, g, rfl, qn, qb1, qb2, bg1, rfl⟩) (fun σ5 H5 S5 => ?_) sc_Seats_next.nd
    refine sy_when S5 (b := isN (bD (bestAt qs gs c i)) || better (dueF q g) (bestAt qs gs c i)) (jt_or (jt_isN (S5.at 1)) fun hn => ?_) (fun hb' H6 S6 => ?_) (fun hb' H6 S6 => ?_)
    · cases hbi : bestAt qs gs c i with
      | none => rw [hbi] at hn; cases hn
      | some b' =>
        rw [hbi] at S5
        exact jt_lt (S5.at 5) (jd_ixT (n := 0) (S5.at 1) jd_int rfl rfl)
    · have hbt : better (dueF q g) (bestAt qs gs c i) = true := by
        cases hbi : bestAt qs gs c i with
        | none => rfl
        | some b' => rw [hbi] at hb'; simpa [isN, bD] using hb'
      have eb : bestAt qs gs c (i + 1) = some (dueF q g, (i : Int)) := by
        rw [e]
        unfold bestStep
        rw [hm, hbt]
        rfl
      exact sy_set 1 S6 (jd_tup (ja_cons (S6.at 5) (ja_cons (S6.at 2) ja_nil))) (fun σ7 H7 S7 => tB_nil (tB_nil (tB_nil ⟨_, _, ⟨rfl, _, _, _, _, by rw [eb]; rfl⟩, S7⟩))) sc_Seats_next.nd
    · have hbt : better (dueF q g) (bestAt qs gs c i) = false := by
        cases hbi : bestAt qs gs c i with
        | none => rw [hbi] at hb'; cases hb'
        | some b' => rw [hbi] at hb'; simpa [isN, bD] using hb'
      have eb : bestAt qs gs c (i + 1) = bestAt qs gs c i := by
        rw [e]
        unfold bestStep
        rw [hm, hbt]
        rfl
      exact tB_nil (tB_nil ⟨_, _, ⟨rfl, _, _, _, _, by rw [eb]; rfl⟩, S6⟩)
  · rintro ρ' μ' σ' H' ⟨rfl, o2, o3, o4, o5, rfl⟩ S2
    have el : (zipD (rgD 0 (qs.map dq).length) (qs.map dq)).length = qs.length := by rw [zipD_len, rgD_len, List.length_map]; omega
    rw [el, hb] at S2
    obtain ⟨p, hp1, hp2, hp3⟩ := bestAt_lt hb
    obtain ⟨g, hg⟩ : ∃ g, gs[p]? = some g := ⟨gs[p], List.getElem?_eq_getElem hp3⟩
    have hbd : bD (some b) = .tuple [.int b.1, .int (p : Int)] := by rw [← hp1]; rfl
    rw [hbd] at S2
    refine sy_set 2 S2 (jd_ixT (n := 1) (S2.at 1) jd_int rfl rfl) (fun σ3 H3 S3 => ?_) sc_Seats_next.nd
    have gv : ∀ {σ H} (S : Sy K B M0 [some (.val (.ref x)), some (.dat (.tuple [.int b.1, .int (p : Int)])), some (.dat (.int p)), o3, o4, o5] [(x, .ins (cS K) dx (seatsF (qD qs) (gD gs) c))] σ H), True := fun _ => trivial
    refine sy_fldset S3 (s := .dat (gD (gs.set p (g + 1)))) (Jd.is (d := .tuple ((gs.map PyData.int).take p ++ [.int (g + 1)] ++ (gs.map PyData.int).drop (p + 1))) (jd_cat (jd_cat (jd_slTo (js_fld S3 (S3.atV 0) (i := 0) rfl lk_gi T.l_Seats T.a_Seats_given) (S3.at 2) rfl (by rw [List.length_map]; omega)) (jd_tup (ja_cons (jd_add (jd_gi (js_fld S3 (S3.atV 0) (i := 0) rfl lk_gi T.l_Seats T.a_Seats_given) (S3.at 2) rfl hg) jd_int) ja_nil)) ?_)
      (jd_slFrom (n := p + 1) (js_fld S3 (S3.atV 0) (i := 0) rfl lk_gi T.l_Seats T.a_Seats_given) (jd_add (S3.at 2) jd_int) (by omega) (by rw [List.length_map]; omega)) ?_) ?_).js (S3.atV 0) (i := 0) rfl T.l_Seats T.a_Seats_given (by simp [seatsF]) fun H4 S4 => ?_
    · simp; omega
    · simp; omega
    · rw [set_cut (by rw [List.length_map]; exact hp3)]
      show PyData.tuple _ = PyData.tuple _
      rw [List.map_set]
    · have S4 : Sy K B M0 _ [(x, .ins (cS K) dx (putFS "given" (.dat (gD (gs.set p (g + 1)))) (seatsF (qD qs) (gD gs) c)))] _ H4 := S4
      rw [put3] at S4
      refine sy_fldset S4 (jd_add (js_fld S4 (S4.atV 0) (i := 0) rfl lk_co T.l_Seats T.a_Seats_count) jd_int).js (S4.atV 0) (i := 0) rfl T.l_Seats T.a_Seats_count (by simp [seatsF]) fun H5 S5 => ?_
      have S5 : Sy K B M0 _ [(x, .ins (cS K) dx (putFS "count" (.dat (.int (c + 1))) (seatsF (qD qs) (gD (gs.set p (g + 1))) c)))] _ H5 := S5
      rw [put4] at S5
      refine sy_retE (S5.ev (S5.at 2) fun v H6 S6 _ pv => k v _ _ H6 ⟨x, dx, qs, gs, c, b, p, g, rfl, rfl, hb, hp1, hg, rfl, rfl⟩ (S6.one pv))
end K89

set_option maxHeartbeats 4000000
namespace K89
open PySem PySem.Spec PyProof.Rows L2 J Evl
variable {P : Program} {w : World} {K : PySem.W.Frag} {mg : Str → Option Value} {base : Heap}
/-! ### period -/
def lcmQ (qs : List (Int × Int)) : Nat := qs.foldl (fun f q => Nat.lcm f q.2.natAbs) 1
def Dn (qs : List (Int × Int)) : Prop := qs.length ≤ 5 ∧ ∀ q ∈ qs, 0 < q.2 ∧ q.2 ≤ 4096
theorem lcmQ_succ {qs : List (Int × Int)} {i : Nat} {q : Int × Int} (hq : qs[i]? = some q) : lcmQ (qs.take (i + 1)) = Nat.lcm (lcmQ (qs.take i)) q.2.natAbs := by
  unfold lcmQ
  rw [List.take_add_one, hq, List.foldl_append]
  rfl
theorem lcmQ_le {qs : List (Int × Int)} (h : Dn qs) : ∀ i, i ≤ qs.length → 0 < lcmQ (qs.take i) ∧ lcmQ (qs.take i) ≤ 4096 ^ i := by
  intro i
  induction i with
  | zero => intro _; exact ⟨(by decide : 0 < 1), (by decide : 1 ≤ 1)⟩
  | succ i ih =>
    intro hi
    obtain ⟨a, b⟩ := ih (by omega)
    have hq : qs[i]? = some qs[i] := List.getElem?_eq_getElem (by omega)
    obtain ⟨h1, h2⟩ := h.2 qs[i] (List.getElem_mem _)
    rw [lcmQ_succ hq]
    have p : 0 < qs[i].2.natAbs := by omega
    refine ⟨Nat.lcm_pos a p, Nat.le_trans (Nat.le_of_dvd (Nat.mul_pos a p) (Nat.lcm_dvd (Nat.dvd_mul_right _ _) (Nat.dvd_mul_left _ _))) ?_⟩
    rw [Nat.pow_succ]
    exact Nat.mul_le_mul b (by omega)
theorem lcmQ_lt {qs : List (Int × Int)} (h : Dn qs) {i : Nat} (hi : i ≤ qs.length) : 0 < lcmQ (qs.take i) ∧ lcmQ (qs.take i) < 2 ^ 61 := by
  obtain ⟨a, b⟩ := lcmQ_le h i hi
  refine ⟨a, Nat.lt_of_le_of_lt b (Nat.lt_of_le_of_lt (Nat.pow_le_pow_right (by decide) (by have := h.1; omega : i ≤ 5)) (by decide))⟩
theorem lcmQ_lt4 {qs : List (Int × Int)} (h : Dn qs) {i : Nat} (hi : i < qs.length) : 0 < lcmQ (qs.take i) ∧ lcmQ (qs.take i) < 2 ^ 60 := by
  obtain ⟨a, b⟩ := lcmQ_le h i (by omega)
  refine ⟨a, Nat.lt_of_le_of_lt b (Nat.lt_of_le_of_lt (Nat.pow_le_pow_right (by decide) (by have := h.1; omega : i ≤ 4)) (by decide))⟩
/-! ### the law's own numbers -/
theorem fd_law_is_truth (T : Tx K mg) : Fd CX0 P w K mg base 1 "_law_is_truth" ["found", "due"] (spD K 2 fun ds r => ∃ a b : Bool, ds = [.bool a, .bool b] ∧ r = .bool (a == b)) := by
  obtain ⟨fd, F, hm⟩ := T.f_law_is_truth
  refine fd_mk F hm (ok_D F sc_law_is_truth rfl fun cdv A outer s H E M vs ds d D' hr hl hR S k _ => ?_) (fun _ _ _ _ _ _ us hl => match us, hl with | [_, _], _ => rfl)
  obtain ⟨a, b, rfl, rfl⟩ := hR
  refine sy_ret S (jd_if (k := b) (jt_val (S.at 1)) (fun h => ?_) fun h => ?_) fun v H' x _ p => k v H' x p
  · refine (jd_isB (S.at 0) jd_bl).is ?_
    subst h; cases a <;> rfl
  · refine (jd_isB (S.at 0) jd_bl).is ?_
    subst h; cases a <;> rfl
theorem fd_law_q (T : Tx K mg) : Fd CX0 P w K mg base 1 "_law_q" ["n", "d"] (spD K 2 fun ds r => ∃ n d : Int, ds = [.int n, .int d] ∧ 0 < d ∧ Bt 8000 d ∧ r = dq (lowQ n d)) := by
  obtain ⟨fd, F, hm⟩ := T.f_law_q
  refine fd_mk F hm (ok_D F sc_law_q rfl fun cdv A outer s H E M vs ds d D' hr hl hR S k _ => ?_) (fun _ _ _ _ _ _ us hl => match us, hl with | [_, _], _ => rfl)
  obtain ⟨n, m, rfl, h0, hb, rfl⟩ := hR
  refine sy_par 2 3 S (jd_abs T.n_abs (S.at 0)) (jd_abs T.n_abs (S.at 1)) (fun σ1 H1 S1 => ?_) rfl sc_law_q.nd (by decide) rfl
  refine sy_while S1 (fun b ρ' μ' => μ' = [] ∧ ∃ a : Nat, Nat.gcd a b = Nat.gcd n.natAbs m.natAbs ∧ ρ' = [some (.dat (.int n)), some (.dat (.int m)), some (.dat (.int (a : Int))), some (.dat (.int (b : Int)))]) m.natAbs ⟨rfl, _, rfl, rfl⟩ ?_ PassesOwn.never
  rintro b ρ' μ' σ' H' ⟨rfl, a, hg, rfl⟩ S2
  refine ⟨_, jt_gt (S2.at 3) jd_int, fun hp H3 S3 => ?_, fun hp H3 S3 => ?_⟩
  · have hb0 : 0 < b := by have := of_decide_eq_true hp; omega
    refine sy_par 2 3 S3 (S3.at 3) (jd_mod (jd_int1 T.n_int (S3.at 2)) (S3.at 3) (by omega)) (fun σ4 H4 S4 => tB_nil ?_) rfl sc_law_q.nd (by decide) rfl
    refine ⟨a % b, _, _, Nat.mod_lt _ hb0, ⟨rfl, b, ?_, ?_⟩, S4⟩
    · rw [← hg, Nat.gcd_comm a b, Nat.gcd_rec b a, Nat.gcd_comm]
    · rfl
  · have hb0 : b = 0 := by have := of_decide_eq_false hp; omega
    subst hb0
    rw [Nat.gcd_zero_right] at hg
    subst hg
    have e : (decide (0 < m)) = true := decide_eq_true h0
    have hg : 0 < Nat.gcd n.natAbs m.natAbs := Nat.gcd_pos_of_pos_right _ (by omega)
    have hle : Nat.gcd n.natAbs m.natAbs ≤ m.natAbs := Nat.gcd_le_right _ (by omega)
    have hc : CDivW n ((Nat.gcd n.natAbs m.natAbs : Nat) : Int) := wide_div (by omega) (b := 8000) (by show ((Nat.gcd n.natAbs m.natAbs : Nat) : Int).natAbs < _; unfold Bt at hb; omega) (by decide) (by decide)
    have hc2 : CDivW m ((Nat.gcd n.natAbs m.natAbs : Nat) : Int) := hc
    refine sy_ret S3 (jd_if (jt_gt (S3.at 1) jd_int) (fun _ => jd_tup (ja_cons (jd_div (S3.at 0) (S3.at 2) hc) (ja_cons (jd_div (S3.at 1) (S3.at 2) hc2) ja_nil))) fun h => ?_) fun v H' x _ p => k v H' x ?_
    · rw [e] at h; cases h
    · unfold lowQ
      rw [if_pos h0]
      exact p
theorem fd_law_st_floor (T : Tx K mg) : Fd CX0 P w K mg base 1 "_law_st_floor" ["share", "count"] (spD K 2 fun ds r => ∃ (q : Int × Int) (c : Int), ds = [dq q, .int c] ∧ 0 < q.2 ∧ Bt 64 q.1 ∧ Bt 64 q.2 ∧ Bt 64 c ∧ r = .int (q.1 * c / q.2)) := by
  obtain ⟨fd, F, hm⟩ := T.f_law_st_floor
  refine fd_mk F hm (ok_D F sc_law_st_floor rfl fun cdv A outer s H E M vs ds d D' hr hl hR S k _ => ?_) (fun _ _ _ _ _ _ us hl => match us, hl with | [_, _], _ => rfl)
  obtain ⟨q, c, rfl, h0, b1, b2, b3, rfl⟩ := hR
  exact sy_ret S (jd_div (jd_mul (jd_ixT (n := 0) (S.at 0) jd_int rfl rfl) (S.at 1) (wide_mul b1 b3 (by decide) (by decide) (by decide))) (jd_ixT (n := 1) (S.at 0) jd_int rfl rfl) (wide_div h0 b2 (by decide) (by decide))) fun v H' x _ p => k v H' x p
theorem fd_law_st_ceiling (T : Tx K mg) : Fd CX0 P w K mg base 1 "_law_st_ceiling" ["share", "count"] (spD K 2 fun ds r => ∃ (q : Int × Int) (c : Int), ds = [dq q, .int c] ∧ 0 < q.2 ∧ Bt 64 q.1 ∧ Bt 64 q.2 ∧ Bt 64 c ∧ r = .int (0 - (0 - q.1 * c) / q.2)) := by
  obtain ⟨fd, F, hm⟩ := T.f_law_st_ceiling
  refine fd_mk F hm (ok_D F sc_law_st_ceiling rfl fun cdv A outer s H E M vs ds d D' hr hl hR S k _ => ?_) (fun _ _ _ _ _ _ us hl => match us, hl with | [_, _], _ => rfl)
  obtain ⟨q, c, rfl, h0, b1, b2, b3, rfl⟩ := hR
  exact sy_ret S (jd_sub jd_int (jd_div (jd_sub jd_int (jd_mul (jd_ixT (n := 0) (S.at 0) jd_int rfl rfl) (S.at 1) (wide_mul b1 b3 (by decide) (by decide) (by decide)))) (jd_ixT (n := 1) (S.at 0) jd_int rfl rfl) (wide_div h0 b2 (by decide) (by decide)))) fun v H' x _ p => k v H' x p
end K89

set_option maxHeartbeats 4000000
namespace K89
open PySem PySem.Spec PyProof.Rows L2 J Evl
variable {P : Program} {w : World} {K : PySem.W.Frag} {mg : Str → Option Value} {base : Heap}
theorem due_eq (q : Int × Int) (g : Int) : 0 - (0 - (g + 1) * q.2) / q.1 = dueF q g := by
  unfold dueF
  have e : 0 - (g + 1) * q.2 = -(g + 1) * q.2 := by rw [Int.neg_mul]; omega
  rw [e]; omega
def nextD (b : Option (Int × Int)) : D := match b with
  | none => .none
  | some b => .int b.2
theorem jd_giL {X : Cx} {M : List Addr} {a b : Expr} {σ : L2.St} {H : Hp} {gs : List Int} {i : Nat} {g z : Int} {pos : Pos} (ha : Jd X M a σ H (.list (gs.map PyData.int))) (hb : Jd X M b σ H (.int z)) (hz : z = (i : Int)) (hg : gs[i]? = some g) (hx : PlainIx b := by exact fun _ _ => rfl) : Jd X M (.Subscript a b pos) σ H (.int g) :=
  jd_ixL ha hb hz (by rw [List.getElem?_map, hg]; rfl) hx
theorem fd_law_st_next (T : Tx K mg) : Fd CX0 P w K mg base 1 "_law_st_next" ["shares", "given"] (spD K 2 fun ds r => ∃ qs gs, ds = [qD qs, .list (gs.map PyData.int)] ∧ Sh qs ∧ Gv gs ∧ gs.length = qs.length ∧ 0 ≤ gs.sum ∧ gs.sum < 2 ^ 60 ∧ r = nextD (bestAt qs gs gs.sum qs.length)) := by
  obtain ⟨fd, F, hm⟩ := T.f_law_st_next
  refine fd_mk F hm (ok_D F sc_law_st_next rfl fun cdv A outer s H E M vs ds d D' hr hl hR S k _ => ?_) (fun _ _ _ _ _ _ us hl => match us, hl with | [_, _], _ => rfl)
  obtain ⟨qs, gs, rfl, ⟨l1, l5, hq⟩, hG, hlen, c0, c6, rfl⟩ := hR
  generalize hc : gs.sum = c at c0 c6 k
  refine sy_par 2 3 S (Jd.is (jd_sum rfl T.n_sum (S.at 1)) (congrArg PyData.int hc)) jd_non (fun σ1 H1 S1 => ?_) rfl sc_law_st_next.nd (by decide) rfl
  refine sy_for S1 (jw_enumT T.n_enumerate (S1.at 0)) (fun d ρ => match d with | .tuple [i, q] => (ρ.set 4 (some (.dat i))).set 5 (some (.dat q)) | _ => ρ) (js := [4, 5])
    (fun d ρ' hd => ?_) (fun i ρ' μ' => μ' = [] ∧ ∃ o4 o5 o6, ρ' = [some (.dat (qD qs)), some (.dat (.list (gs.map PyData.int))), some (.dat (.int c)), some (.dat (bD (bestAt qs gs c i))), o4, o5, o6]) ⟨rfl, _, _, _, rfl⟩ ?_ ?_ PassesOwn.never rfl
  · obtain ⟨i, hi⟩ := List.mem_iff_getElem?.mp hd
    obtain ⟨a, q, h1, h2, rfl⟩ := zipD_get hi
    exact jg_tup rfl (jgs_cons (jg_name 4 sc_law_st_next.nd) (jgs_cons (jg_name 5 sc_law_st_next.nd) jgs_nil))
  · rintro i d ρ' μ' σ' H' B' hd ⟨rfl, o4, o5, o6, rfl⟩ hB S2
    obtain ⟨a, q, h1, h2, rfl⟩ := zipD_get hd
    obtain ⟨hi, rfl⟩ := rgD_get h1
    rw [List.getElem?_map] at h2
    obtain ⟨q, h2q, rfl⟩ := Option.map_eq_some_iff.mp h2
    clear h2
    rw [List.length_map] at hi
    have hgi : i < gs.length := by omega
    obtain ⟨g, hg⟩ : ∃ g, gs[i]? = some g := ⟨gs[i], List.getElem?_eq_getElem hgi⟩
    obtain ⟨⟨q0, qb1, qb2⟩, qn⟩ := hq q (List.mem_of_getElem? h2q)
    obtain ⟨g0, g6⟩ := hG g (List.mem_of_getElem? hg)
    have e : bestAt qs gs c (i + 1) = bestStep q g c i (bestAt qs gs c i) := by
      show (match qs[i]?, gs[i]? with | some q, some g => bestStep q g c i (bestAt qs gs c i) | _, _ => bestAt qs gs c i) = _
      rw [h2q, hg]
    rw [Int.zero_add] at S2
    have bg : Bt 64 g := bt_of (by omega) (by omega)
    have bg1 : Bt 64 (g + 1) := bt_of (by omega) (by omega)
    have bc1 : Bt 64 (c + 1) := bt_of (by omega) (by omega)
    refine sy_set 6 S2 (Jd.is (jd_sub jd_int (jd_div (jd_sub jd_int (jd_mul (jd_add (jd_giL (S2.at 1) (S2.at 4) rfl hg) jd_int) (jd_ixT (n := 1) (S2.at 5) jd_int rfl rfl) (wide_mul bg1 qb2 (by decide) (by decide) (by decide)))) (jd_ixT (n := 0) (S2.at 5) jd_int rfl rfl) (wide_div qn qb1 (by decide) (by decide)))) (congrArg PyData.int (due_eq q g))) (fun σ3 H3 S3 => ?_) sc_law_st_next.nd
    refine sy_when S3 (b := mayF q g c && (isN (bD (bestAt qs gs c i)) || better (dueF q g) (bestAt qs gs c i))) (jt_and (jt_lt (jd_mul (jd_giL (S3.at 1) (S3.at 4) rfl hg) (jd_ixT (n := 1) (S3.at 5) jd_int rfl rfl) (wide_mul bg qb2 (by decide) (by decide) (by decide))) (jd_mul (jd_ixT (n := 0) (S3.at 5) jd_int rfl rfl) (jd_add (S3.at 2) jd_int) (wide_mul qb1 bc1 (by decide) (by decide) (by decide)))) fun _ =>
      jt_or (jt_isN (S3.at 3)) fun hn => ?_) (fun hb' H6 S6 => ?_) (fun hb' H6 S6 => ?_)
    · cases hbi : bestAt qs gs c i with
      | none => rw [hbi] at hn; cases hn
      | some b' =>
        rw [hbi] at S3
        exact jt_lt (S3.at 6) (jd_ixT (n := 0) (S3.at 3) jd_int rfl rfl)
    · have hbt : (mayF q g c && better (dueF q g) (bestAt qs gs c i)) = true := by
        cases hbi : bestAt qs gs c i with
        | none => rw [hbi] at hb'; simpa [isN, bD, better] using hb'
        | some b' => rw [hbi] at hb'; simpa [isN, bD] using hb'
      have eb : bestAt qs gs c (i + 1) = some (dueF q g, (i : Int)) := by
        rw [e]
        unfold bestStep
        rw [hbt]
        rfl
      exact sy_set 3 S6 (jd_tup (ja_cons (S6.at 6) (ja_cons (S6.at 4) ja_nil))) (fun σ7 H7 S7 => tB_nil (tB_nil ⟨_, _, ⟨rfl, _, _, _, by rw [eb]; rfl⟩, S7⟩)) sc_law_st_next.nd
    · have hbt : (mayF q g c && better (dueF q g) (bestAt qs gs c i)) = false := by
        cases hbi : bestAt qs gs c i with
        | none => rw [hbi] at hb'; simpa [isN, bD, better] using hb'
        | some b' => rw [hbi] at hb'; simpa [isN, bD] using hb'
      have eb : bestAt qs gs c (i + 1) = bestAt qs gs c i := by
        rw [e]
        unfold bestStep
        rw [hbt]
        rfl
      exact tB_nil ⟨_, _, ⟨rfl, _, _, _, by rw [eb]; rfl⟩, S6⟩
  · rintro ρ' μ' σ' H' ⟨rfl, o4, o5, o6, rfl⟩ S2
    have el : (zipD (rgD 0 (qs.map dq).length) (qs.map dq)).length = qs.length := by rw [zipD_len, rgD_len, List.length_map]; omega
    rw [el] at S2
    refine sy_ret S2 (jd_if (jt_isN (S2.at 3)) (fun h => ?_) fun h => ?_) fun v H' x _ p => k v H' x p
    · cases hb : bestAt qs gs c qs.length with
      | none => exact jd_non
      | some b => rw [hb] at h; cases h
    · cases hb : bestAt qs gs c qs.length with
      | none => rw [hb] at h; cases h
      | some b =>
        rw [hb] at S2
        exact jd_ixT (n := 1) (S2.at 3) jd_int rfl rfl
end K89

set_option maxHeartbeats 4000000
namespace K89
open PySem PySem.Spec PyProof.Rows L2 J Evl
variable {P : Program} {w : World} {K : PySem.W.Frag} {mg : Str → Option Value} {base : Heap}
/-! ### the draws -/
def drK (l : Addr) (cs : List Int) (r t : Int) : List (Key × Sv) := [(.inr "great", .val (.ref l)), (.inr "cells", .dat (.list (cs.map PyData.int))), (.inr "rest", .dat (.int r)), (.inr "turn", .dat (.int t))]
abbrev iS (gs : List Int) : List Sv := (gs.map PyData.int).map Sv.dat
def Dr (a l : Addr) (gs cs : List Int) (r t : Int) : Mu := [(a, .dct (drK l cs r t)), (l, .lst (iS gs))]
theorem lk_great {l cs r t} : lkS (drK l cs r t) (.inr "great") = some (.val (.ref l)) := rfl
theorem lk_cells {l cs r t} : lkS (drK l cs r t) (.inr "cells") = some (.dat (.list (cs.map PyData.int))) := rfl
theorem lk_rest {l cs r t} : lkS (drK l cs r t) (.inr "rest") = some (.dat (.int r)) := rfl
theorem lk_turn {l cs r t} : lkS (drK l cs r t) (.inr "turn") = some (.dat (.int t)) := rfl
theorem put_rest {l cs r t r'} : putS (drK l cs r t) (.inr "rest") (.dat (.int r')) = drK l cs r' t := rfl
theorem put_turn {l cs r t t'} : putS (drK l cs r t) (.inr "turn") (.dat (.int t')) = drK l cs r t' := rfl
/-- a state of draws that can be drawn from -/
def DrOk (gs : List Int) (t n : Int) : Prop := gs.length ≤ 1000 ∧ 0 ≤ t ∧ t ≤ n
def greatF (n : Int) : Option D := if (10 : Int) ^ (18 : Int).toNat ≤ ((n.natAbs : Nat) : Int) then some (.int (((n.natAbs : Nat) : Int) - (10 : Int) ^ (18 : Int).toNat)) else none
theorem great_ints : ∀ ns : List Int, ∃ gs : List Int, (ns.map greatF).filterMap id = gs.map PyData.int ∧ gs.length ≤ ns.length
  | [] => ⟨[], rfl, Nat.le_refl _⟩
  | n :: r => by
    obtain ⟨gs, h1, h2⟩ := great_ints r
    by_cases q : (10 : Int) ^ (18 : Int).toNat ≤ ((n.natAbs : Nat) : Int)
    · have e : greatF n = some (.int (((n.natAbs : Nat) : Int) - (10 : Int) ^ (18 : Int).toNat)) := if_pos q
      exact ⟨(((n.natAbs : Nat) : Int) - (10 : Int) ^ (18 : Int).toNat) :: gs, by rw [List.map_cons, e, List.map_cons, ← h1]; rfl, by simp; omega⟩
    · have e : greatF n = none := if_neg q
      exact ⟨gs, by rw [List.map_cons, e, ← h1]; rfl, by simp; omega⟩
theorem fd_law_begun (T : Tx K mg) : Fd CX0 P w K mg base 1 "_law_begun" ["script"] (spM K 1 (fun ss μ => ∃ ns : List Int, ss = [.dat (.list (ns.map PyData.int))] ∧ ns.length ≤ 1000 ∧ μ = []) (fun _ _ s μ' => ∃ a l gs cs, s = .val (.ref a) ∧ gs.length ≤ 1000 ∧ μ' = Dr a l gs cs 0 0) noF) := by
  obtain ⟨fd, F, hm⟩ := T.f_law_begun
  refine fd_mk F hm (ok_M F sc_law_begun rfl fun cdv A outer s H E B M0 vs ss μ D' hr hl hP S k kn => ?_) (fun _ _ _ _ _ _ us hl => match us, hl with | [_], _ => rfl)
  obtain ⟨ns, rfl, hz, rfl⟩ := hP
  have pw : ∀ {X : Cx} {M σ H p1 p2 p3 k1 k2}, Jd X M (.BinOp (.Constant (.int 10) k1 p1) .Pow (.Constant (.int 18) k2 p2) p3) σ H (.int ((10 : Int) ^ (18 : Int).toNat)) := jd_pow jd_int jd_int ⟨by decide, by decide, by decide⟩
  refine tB_setLc 1 (lcN_own S (jw_lst (S.at 0)) (ns.map greatF) (by simp) (by simp; omega) (fun d ρ => ρ.set 2 (some (.dat d))) (js := [2]) (own := [("cell", 2)]) (by simp) ?_ ?_ ?_ fun l H1 S1 => ?_) (blkOk_by (by rfl)) rfl sc_law_begun.nd
  · rintro _ d ⟨s, H, C, cl, fp, rfl⟩ _
    exact jg_name 2 sc_law_begun.nd
  · rintro i d o _ B' M' σ' H' h1 h2 ⟨s, H, C, cl, fp, rfl⟩ S'
    rw [List.getElem?_map] at h1 h2
    obtain ⟨n, hn, rfl⟩ := Option.map_eq_some_iff.mp h1
    rw [hn] at h2
    cases h2
    refine jts_one (Jt.is (jt_ge (jd_abs T.n_abs (S'.at 2)) pw) ?_)
    show _ = (greatF n).isSome
    unfold greatF
    split
    · rename_i q; rw [decide_eq_true q]; rfl
    · rename_i q; rw [decide_eq_false q]; rfl
  · rintro i d x _ B' M' σ' H' h1 h2 ⟨s, H, C, cl, fp, rfl⟩ S'
    rw [List.getElem?_map] at h1 h2
    obtain ⟨n, hn, rfl⟩ := Option.map_eq_some_iff.mp h1
    rw [hn] at h2
    have h2 : greatF n = some x := Option.some.inj h2
    unfold greatF at h2
    split at h2
    · cases h2
      exact jd_sub (jd_abs T.n_abs (S'.at 2)) pw
    · cases h2
  · have S2 := S1.set 1 (s := .val (.ref l)) (v := .ref l) rfl
    obtain ⟨gs, hgs, hgl⟩ := great_ints ns
    rw [hgs] at S2
    refine sy_retE (jm_dict (hkl := (by decide : 4 ≤ 15)) (kvs := drK l (ns.map fun n => ((n.natAbs : Nat) : Int)) 0 0) S2 (pps_cons pe_str pe_W (pps_cons pe_str pe_W (pps_cons pe_str pe_W (pps_cons pe_str pe_W pps_nil)))) (fun p H3 S3 => ?_) fun a H3 S3 => k (.ref a) (.val (.ref a)) _ H3 ⟨a, l, gs, _, rfl, by omega, rfl⟩ (S3.one rfl))
    refine jps_cons (S3.atV 1).js (jps_cons (Jd.js ?_) (jps_cons jd_int.js (jps_cons jd_int.js jps_nil)))
    refine (sy_lc S3 (jw_lst (S3.at 0)) (ns.map fun n => some (.int ((n.natAbs : Nat) : Int))) (by simp) (by simp; omega) (fun d ρ => ρ.set 2 (some (.dat d))) (js := [2]) (own := [("cell", 2)]) (by simp) ?_ ?_ ?_ (blkOk_by (by rfl)) rfl sc_law_begun.nd).is ?_
    · rintro _ d ⟨s, H, C, cl, fp, rfl⟩ _
      exact jg_name 2 sc_law_begun.nd
    · rintro i d o _ B' M' σ' H' h1 h2 ⟨s, H, C, cl, fp, rfl⟩ S'
      rw [List.getElem?_map] at h1 h2
      obtain ⟨n, hn, rfl⟩ := Option.map_eq_some_iff.mp h1
      rw [hn] at h2
      cases h2
      exact jts_nil
    · rintro i d x _ B' M' σ' H' h1 h2 ⟨s, H, C, cl, fp, rfl⟩ S'
      rw [List.getElem?_map] at h1 h2
      obtain ⟨n, hn, rfl⟩ := Option.map_eq_some_iff.mp h1
      rw [hn] at h2
      cases h2
      exact jd_abs T.n_abs (S'.at 2)
    · rw [fm_mapS, List.map_map]; rfl
end K89
namespace K89
open PySem PySem.Spec PyProof.Rows L2 J Evl
variable {P : Program} {w : World} {K : PySem.W.Frag} {mg : Str → Option Value} {base : Heap}
theorem cmulL {i j : Int} (h : -(2 ^ 64) < i ∧ i < 2 ^ 64) : CMul i j := .inl h
theorem cmulR {i j : Int} (h : -(2 ^ 64) < j ∧ j < 2 ^ 64) : CMul i j := .inr h
theorem fd_law_blended (T : Tx K mg) : Fd CX0 P w K mg base 1 "_law_blended" ["state"] (spM K 1 (fun ss μ => ∃ a l gs cs r t, ss = [.val (.ref a)] ∧ 0 ≤ t ∧ t < 2 ^ 40 ∧ μ = Dr a l gs cs r t)
    (fun ss μ s μ' => ∃ a l gs cs r t n, ss = [.val (.ref a)] ∧ μ = Dr a l gs cs r t ∧ s = .dat (.int n) ∧ μ' = Dr a l gs cs r (t + 1)) noF) := by
  obtain ⟨fd, F, hm⟩ := T.f_law_blended
  refine fd_mk F hm (ok_M F sc_law_blended rfl fun cdv A outer s H E B M0 vs ss μ D' hr hl hP S k kn => ?_) (fun _ _ _ _ _ _ us hl => match us, hl with | [_], _ => rfl)
  obtain ⟨a, l, gs, cs, r, t, rfl, t0, t40, rfl⟩ := hP
  have hu : (bodyX P w K mg base N_law_blended "_law_blended" s_law_blended (He.ga K "_law_blended") cdv A outer s H E).A.units + 1 < cLine := by have := hr.units; omega
  refine sy_par 2 3 S (jd_add (js_dget hu S (S.atV 0) (i := 0) rfl lk_turn) jd_int) jd_int (fun σ1 H1 S1 => ?_) rfl sc_law_blended.nd (by decide) rfl
  refine sy_dput hu S1 (S1.at 2).js (S1.atV 0) (i := 0) rfl (by decide : 4 < 1000) fun H2 S2 => ?_
  have S2 : Sy K B M0 [some (.val (.ref a)), none, some (.dat (.int (t + 1))), some (.dat (.int 0)), none, none] (Dr a l gs cs r (t + 1)) σ1 H2 := S2
  refine sy_for S2 (jw_lst (jd_lst (ja_cons jd_int (ja_cons jd_int (ja_cons jd_int ja_nil))))) (fun d ρ => ρ.set 1 (some (.dat d))) (js := [1]) (fun d ρ' _ => jg_name 1 sc_law_blended.nd)
    (fun i ρ' μ' => μ' = Dr a l gs cs r (t + 1) ∧ ∃ f o1 o4 o5, ρ' = [some (.val (.ref a)), o1, some (.dat (.int (t + 1))), some (.dat (.int f)), o4, o5]) ⟨rfl, _, _, _, _, rfl⟩ ?_ ?_ PassesOwn.never rfl
  · rintro i d ρ' μ' σ' H' B' hd ⟨rfl, f, o1, o4, o5, rfl⟩ hB S3
    obtain ⟨p, rfl, p0, p1⟩ : ∃ p : Int, d = .int p ∧ 0 < p ∧ p < 2 ^ 32 := by
      have hm := List.mem_of_getElem? hd
      simp only [List.mem_cons, List.not_mem_nil, or_false] at hm
      rcases hm with rfl | rfl | rfl <;> exact ⟨_, rfl, by decide, by decide⟩
    have pdv : 0 ≤ p / 53 ∧ p / 53 < 2 ^ 32 := by omega
    refine sy_set 4 S3 (jd_add (jd_mulS jd_int (S3.at 2) (cmulL ⟨by decide, by decide⟩)) (jd_div (S3.at 1) jd_int (wide_div (b := 64) (by decide) (by decide) (by decide) (by decide)))) (fun σ4 H4 S4 => ?_) sc_law_blended.nd
    refine sy_for S4 (jw_lst (js_dget hu S4 (S4.atV 0) (i := 0) rfl lk_cells)) (fun d ρ => ρ.set 5 (some (.dat d))) (js := [5]) (fun d ρ' _ => jg_name 5 sc_law_blended.nd)
      (fun i ρ' μ' => μ' = Dr a l gs cs r (t + 1) ∧ ∃ bl o5, 0 ≤ bl ∧ bl < 2 ^ 64 ∧ ρ' = [some (.val (.ref a)), some (.dat (.int p)), some (.dat (.int (t + 1))), some (.dat (.int f)), some (.dat (.int bl)), o5]) ⟨rfl, _, _, by omega, by omega, rfl⟩ ?_ ?_ PassesOwn.never rfl
    · rintro j d ρ' μ' σ' H' B' hd ⟨rfl, bl, o5, b0, b1, rfl⟩ hB S5
      rw [List.getElem?_map] at hd
      obtain ⟨c, hc, rfl⟩ := Option.map_eq_some_iff.mp hd
      have m0 := Int.emod_nonneg (bl * 69621 + c + (t + 1)) (by omega : p ≠ 0)
      have m1 := Int.emod_lt_of_pos (bl * 69621 + c + (t + 1)) p0
      exact sy_set 4 S5 (jd_mod (jd_int1 T.n_int (jd_add (jd_add (jd_mulS (S5.at 4) jd_int (cmulR ⟨by decide, by decide⟩)) (S5.at 5)) (S5.at 2))) (S5.at 1) p0) (fun σ6 H6 S6 => tB_nil ⟨_, _, ⟨rfl, _, _, m0, by omega, rfl⟩, S6⟩) sc_law_blended.nd
    · rintro ρ' μ' σ' H' ⟨rfl, bl, o5, b0, b1, rfl⟩ S5
      exact sy_set 3 S5 (jd_add (jd_mulS (S5.at 3) jd_int (cmulR ⟨by decide, by decide⟩)) (jd_mod (jd_int1 T.n_int (jd_pow (S5.at 4) jd_int ⟨by decide, by decide, by omega⟩)) (S5.at 1) p0)) (fun σ6 H6 S6 => tB_nil ⟨_, _, ⟨rfl, _, _, _, _, rfl⟩, S6⟩) sc_law_blended.nd
  · rintro ρ' μ' σ' H' ⟨rfl, f, o1, o4, o5, rfl⟩ S3
    exact sy_retE (S3.ev (S3.at 3) fun v H6 S6 _ pv => k v _ _ H6 ⟨a, l, gs, cs, r, t, f, rfl, rfl, rfl, rfl⟩ (S6.one pv))
end K89

set_option maxHeartbeats 4000000
namespace K89
open PySem PySem.Spec PyProof.Rows L2 J Evl
variable {P : Program} {w : World} {K : PySem.W.Frag} {mg : Str → Option Value} {base : Heap}
/-- draws at a, l that were drawn from at most n times; what else they are does not matter -/
def Drs (a l : Addr) (n : Nat) (μ : Mu) : Prop := ∃ (gs cs : List Int) (r t : Int), gs.length ≤ 1000 ∧ 0 ≤ t ∧ t ≤ (n : Int) ∧ μ = Dr a l gs cs r t
theorem Drs.mono {a l : Addr} {n m : Nat} {μ : Mu} (h : Drs a l n μ) (k : n ≤ m) : Drs a l m μ := by
  obtain ⟨gs, cs, r, t, h1, h2, h3, h4⟩ := h
  exact ⟨gs, cs, r, t, h1, h2, by omega, h4⟩
def PreD : List Sv → Mu → Prop := fun ss μ => ∃ (a l : Addr) (gs cs : List Int) (r t room : Int), ss = [.val (.ref a), .dat (.int room)] ∧ 0 < room ∧ room < 2 ^ 64 ∧ gs.length ≤ 1000 ∧ 0 ≤ t ∧ t < 2 ^ 30 ∧ μ = Dr a l gs cs r t
def RD : List Sv → Mu → Sv → Mu → Prop := fun ss μ s μ' => ∃ (a l : Addr) (gs cs : List Int) (r t room z : Int) (gs' : List Int) (r' t' : Int), ss = [.val (.ref a), .dat (.int room)] ∧ μ = Dr a l gs cs r t ∧ s = .dat (.int z) ∧ 0 ≤ z ∧ z < room ∧ gs'.length ≤ gs.length ∧ t ≤ t' ∧ t' ≤ t + 1 ∧ μ' = Dr a l gs' cs r' t'
theorem dr_inj {a l a' l' : Addr} {gs cs gs' cs' : List Int} {r t r' t' : Int} (h : Dr a l gs cs r t = Dr a' l' gs' cs' r' t') : a = a' ∧ l = l' ∧ gs = gs' ∧ cs = cs' ∧ r = r' ∧ t = t' := by
  have mi : ∀ {xs ys : List Int}, xs.map PyData.int = ys.map PyData.int → xs = ys := fun {xs ys} e => List.map_inj_right (fun _ _ z => by cases z; rfl) |>.mp e
  have ms : ∀ {xs ys : List D}, xs.map Sv.dat = ys.map Sv.dat → xs = ys := fun {xs ys} e => List.map_inj_right (fun _ _ z => by cases z; rfl) |>.mp e
  unfold Dr drK iS at h
  simp only [List.cons.injEq, Prod.mk.injEq, Mo.dct.injEq, Mo.lst.injEq, Sv.val.injEq, V.ref.injEq, Sv.dat.injEq, PyData.int.injEq, PyData.list.injEq, true_and, and_true] at h
  obtain ⟨⟨h1, h2, h3, h4, h5⟩, h6, h7⟩ := h
  exact ⟨h1, h2, mi (ms h7), mi h3, h4, h5⟩
theorem preD {a l : Addr} {n : Nat} {μ : Mu} {room : Int} (h : Drs a l n μ) (h0 : 0 < room) (h1 : room < 2 ^ 64) (hn : n < 2 ^ 30) : PreD [.val (.ref a), .dat (.int room)] μ := by
  obtain ⟨gs, cs, r, t, q1, q2, q3, q4⟩ := h
  exact ⟨a, l, gs, cs, r, t, room, rfl, h0, h1, q1, q2, by omega, q4⟩
theorem rD {a l : Addr} {n : Nat} {μ μ' : Mu} {room : Int} {s : Sv} (h : Drs a l n μ) (q : RD [.val (.ref a), .dat (.int room)] μ s μ') : ∃ z, s = .dat (.int z) ∧ 0 ≤ z ∧ z < room ∧ Drs a l (n + 1) μ' := by
  obtain ⟨gs, cs, r, t, q1, q2, q3, rfl⟩ := h
  obtain ⟨a2, l2, gs2, cs2, r2, t2, room2, z, gs', r', t', e1, e2, rfl, z0, z1, g1, t1, t3, rfl⟩ := q
  obtain ⟨rfl, rfl, rfl, rfl, rfl, rfl⟩ := dr_inj e2
  cases e1
  exact ⟨z, rfl, z0, z1, gs', cs, r', t', by omega, by omega, by omega, rfl⟩
theorem fd_law_draw (T : Tx K mg) : Fd CX0 P w K mg base 2 "_law_draw" ["state", "room"] (spM K 2 PreD RD noF) := by
  have W := fd_law_blended (P := P) (w := w) (base := base) T
  obtain ⟨fd, F, hm⟩ := T.f_law_draw
  refine fd_mk F hm (ok_M F sc_law_draw rfl fun cdv A outer s H E B M0 vs ss μ D' hr hl hP S k kn => ?_) (fun _ _ _ _ _ _ us hl => match us, hl with | [_, _], _ => rfl)
  obtain ⟨a, l, gs, cs, r, t, room, rfl, h0, h64, g1, t0, tn, rfl⟩ := hP
  have hu : (bodyX P w K mg base N_law_draw "_law_draw" s_law_draw (He.ga K "_law_draw") cdv A outer s H E).A.units + 1 < cLine := by have := hr.units; omega
  have hu64 := hr.units
  -- behind the first statement
  have fin : ∀ (gs' : List Int) (r' t' : Int) (σ1 : L2.St) (H1 : Hp), gs'.length ≤ gs.length → t ≤ t' → t' ≤ t + 1 → Sy K B M0 [some (.val (.ref a)), some (.dat (.int room)), none] (Dr a l gs' cs r' t') σ1 H1 →
      tB (bodyX P w K mg base N_law_draw "_law_draw" s_law_draw (He.ga K "_law_draw") cdv A outer s H E) ((defBody s_law_draw).drop 1) D' σ1 H1 := fun gs' r' t' σ1 H1 g1' t0' tn' S1 => by
    refine sy_set 2 S1 (jd_mod (jd_int1 T.n_int (js_dget hu S1 (S1.atV 0) (i := 0) rfl lk_rest)) (S1.at 1) h0) (fun σ2 H2 S2 => ?_) sc_law_draw.nd
    refine sy_dput hu S2 (Jd.js (jd_div (js_dget hu S2 (S2.atV 0) (i := 0) rfl lk_rest) (S2.at 1) (wide_div (b := 64) h0 (by omega) (by decide) (by decide)))) (S2.atV 0) (i := 0) rfl (by decide : 4 < 1000) fun H3 S3 => ?_
    have S3 : Sy K B M0 [some (.val (.ref a)), some (.dat (.int room)), some (.dat (.int (r' % room)))] (Dr a l gs' cs (r' / room) t') σ2 H3 := S3
    refine sy_retE (S3.ev (S3.at 2) fun v H6 S6 _ pv => k v (.dat (.int (r' % room))) _ H6 ?_ (S6.one pv))
    exact ⟨a, l, gs, cs, r, t, room, _, gs', _, t', rfl, rfl, rfl, Int.emod_nonneg _ (by omega), Int.emod_lt_of_pos _ h0, g1', t0', tn', rfl⟩
  refine sy_when S (jt_eqI (js_dget hu S (S.atV 0) (i := 0) rfl lk_rest) jd_int) (fun hz H1 S1 => ?_) (fun hz H1 S1 => fin gs r t _ _ (Nat.le_refl _) (by omega) (by omega) S1)
  refine sy_dputE hu (leW (pe_ifExp pt_T pe_W pe_W) ?_)
  have hsh : SeqAt.shaped (.list (gs.map PyData.int)) = true := Lay.shaped (n := 1) (lay_lst.mpr fun x hx => by obtain ⟨i, _, rfl⟩ := List.mem_map.mp hx; exact lay_int) (by decide)
  refine S1.te (Jt.thaw (i := 1) (jt_ne hu64 (S1.frzE (i := 1) (js_dget hu S1 (S1.atV 0) (i := 0) rfl lk_great) rfl) (jd_lst ja_nil) hsh rfl)) fun H2 S2 _ => ?_
  rw [eqv_nil]
  cases gs with
  | nil =>
    show (if (!true) = true then _ else _)
    rw [if_neg (by decide)]
    refine jm_call (μ1 := Dr a l [] cs r t) (μ2 := []) S2 W (hr.mono (by decide)) (jsa_cons (S2.atV 0).js jsa_nil) rfl ⟨a, l, [], cs, r, t, rfl, t0, by omega, rfl⟩ fun v s' μ' H3 hR S3 hv => ?_
    obtain ⟨a2, l2, gs2, cs2, r2, t2, n, e1, e2, rfl, rfl⟩ := hR
    obtain ⟨rfl, rfl, rfl, rfl, rfl, rfl⟩ := dr_inj e2
    refine ⟨B, M0, _, Dr a l [] cs r (t + 1), .dat (.int n), 0, a, _, S3, hv, S3.atV 0, rfl, (by decide : 4 < 1000), fun H4 S4 => tB_nil (fin [] n (t + 1) _ _ (Nat.le_refl _) (by omega) (by omega) S4)⟩
  | cons g gs =>
    show (if (!false) = true then _ else _)
    rw [if_pos (by decide)]
    refine jm_pop0 (i := 1) (xs := iS gs) S2 (js_dget hu S2 (S2.atV 0) (i := 0) rfl lk_great) rfl (by unfold iS; simp at g1 ⊢; omega) fun v H3 S3 hv => ?_
    have S3 : Sy K B M0 _ (Dr a l gs cs r t) _ H3 := S3
    exact ⟨B, M0, _, Dr a l gs cs r t, .dat (.int g), 0, a, _, S3, hv, S3.atV 0, rfl, (by decide : 4 < 1000), fun H4 S4 => tB_nil (fin gs g t _ _ (by simp) (by omega) (by omega) S4)⟩
def PreP : List Sv → Mu → Prop := fun ss μ => ∃ (a l : Addr) (n : Nat) (xs : List D), ss = [.val (.ref a), .dat (.list xs)] ∧ 0 < xs.length ∧ xs.length ≤ 1000 ∧ n < 2 ^ 30 ∧ Drs a l n μ
def RP : List Sv → Mu → Sv → Mu → Prop := fun ss μ s μ' => ∃ (a : Addr) (xs : List D) (x : D) (z : Sv), ss = [.val (.ref a), .dat (.list xs)] ∧ x ∈ xs ∧ s = .dat x ∧ RD [.val (.ref a), .dat (.int xs.length)] μ z μ'
theorem rP {a l : Addr} {n : Nat} {μ μ' : Mu} {xs : List D} {s : Sv} (h : Drs a l n μ) (q : RP [.val (.ref a), .dat (.list xs)] μ s μ') : ∃ x, s = .dat x ∧ x ∈ xs ∧ Drs a l (n + 1) μ' := by
  obtain ⟨a2, xs2, x, z, e, hx, rfl, r⟩ := q
  cases e
  obtain ⟨_, _, _, _, h5⟩ := rD h r
  exact ⟨x, rfl, hx, h5⟩
theorem fd_law_pick (T : Tx K mg) : Fd CX0 P w K mg base 3 "_law_pick" ["state", "some"] (spM K 2 PreP RP noF) := by
  have W := fd_law_draw (P := P) (w := w) (base := base) T
  obtain ⟨fd, F, hm⟩ := T.f_law_pick
  refine fd_mk F hm (ok_M F sc_law_pick rfl fun cdv A outer s H E B M0 vs ss μ D' hr hl hP S k kn => ?_) (fun _ _ _ _ _ _ us hl => match us, hl with | [_, _], _ => rfl)
  obtain ⟨a, l, n, xs, rfl, h0, h1, hn, hD⟩ := hP
  obtain ⟨v1, hv1, hd1⟩ := S.sl 1 _ rfl
  refine sy_retE (leW (pe_ix ix_list pe_W pe_W (by exact fun _ _ => rfl)) (S.evV (jv_var 1 hv1) fun H1 S1 x1 => ?_))
  refine jm_call1 S1 W (hr.mono (by decide)) (jsa_cons (S1.atV 0).js (jsa_cons (jd_len T.n_len (S1.at 1) (.inr rfl)).js jsa_nil)) rfl (preD hD (by omega) (by omega) hn) fun w' s' μ' H3 hR S3 hv => ?_
  obtain ⟨z, rfl, z0, z1, hD'⟩ := rD hD hR
  obtain ⟨v2, hv2, hd2⟩ := S3.sl 1 _ rfl
  rw [hv1] at hv2
  cases hv2
  obtain ⟨p, ys, rfl, e2, e3⟩ := dLst hd2
  obtain ⟨i, rfl⟩ : ∃ i : Nat, z = (i : Int) := ⟨z.toNat, by omega⟩
  have hi : i < xs.length := by omega
  obtain ⟨u, h4, h5⟩ := e3.get (List.getElem?_eq_getElem hi)
  exact ⟨p, ys, (i : Int), u, rfl, dInt hv, ex_l hid_le e2, atI_nat h4, k u (.dat xs[i]) _ H3 ⟨a, xs, xs[i], _, rfl, List.getElem_mem hi, rfl, hR⟩ (S3.one h5)⟩
end K89

set_option maxHeartbeats 4000000
namespace K89
open PySem PySem.Spec PyProof.Rows L2 J Evl
variable {P : Program} {w : World} {K : PySem.W.Frag} {mg : Str → Option Value} {base : Heap}
/-- so many draws, at most, lie between -/
def Stp (k : Nat) (μ μ' : Mu) : Prop := ∀ a l n, Drs a l n μ → Drs a l (n + k) μ'
theorem Stp.trans {j k : Nat} {μ1 μ2 μ3 : Mu} (h1 : Stp j μ1 μ2) (h2 : Stp k μ2 μ3) : Stp (j + k) μ1 μ3 := fun a l n h => by
  have := h2 a l _ (h1 a l n h)
  rwa [Nat.add_assoc] at this
theorem Stp.zero {μ : Mu} : Stp 0 μ μ := fun a l n h => h
theorem Stp.le {j k : Nat} {μ1 μ2 : Mu} (h : Stp j μ1 μ2) (q : j ≤ k) : Stp k μ1 μ2 := fun a l n x => (h a l n x).mono (by omega)
theorem sD {a : Addr} {room : Int} {μ μ' : Mu} {s : Sv} (q : RD [.val (.ref a), .dat (.int room)] μ s μ') : ∃ z, s = .dat (.int z) ∧ 0 ≤ z ∧ z < room ∧ Stp 1 μ μ' := by
  obtain ⟨a2, l2, gs2, cs2, r2, t2, room2, z, gs', r', t', e1, rfl, rfl, z0, z1, g1, t1, t3, rfl⟩ := q
  cases e1
  refine ⟨z, rfl, z0, z1, fun a l n h => ?_⟩
  obtain ⟨gs, cs, r, t, q1, q2, q3, e2⟩ := h
  obtain ⟨rfl, rfl, rfl, rfl, rfl, rfl⟩ := dr_inj e2
  exact ⟨gs', cs2, r', t', by omega, by omega, by omega, rfl⟩
theorem sP {a : Addr} {xs : List D} {μ μ' : Mu} {s : Sv} (q : RP [.val (.ref a), .dat (.list xs)] μ s μ') : ∃ x, s = .dat x ∧ x ∈ xs ∧ Stp 1 μ μ' := by
  obtain ⟨a2, xs2, x, z, e, hx, rfl, r⟩ := q
  cases e
  obtain ⟨_, _, _, _, h5⟩ := sD r
  exact ⟨x, rfl, hx, h5⟩
/-! ### drawn shares -/
def shQ (es : List Int) : List (Int × Int) := es.map fun e => lowQ e es.sum
def EsOk (es : List Int) : Prop := 1 ≤ es.length ∧ es.length ≤ 5 ∧ ∀ e ∈ es, 1 ≤ e ∧ e ≤ 30
theorem es_sum : ∀ {es : List Int}, (∀ e ∈ es, 1 ≤ e ∧ e ≤ 30) → (es.length : Int) ≤ es.sum ∧ es.sum ≤ 30 * es.length
  | [], _ => by simp
  | e :: es, h => by
    have h1 := es_sum (es := es) fun x hx => h x (List.mem_cons_of_mem _ hx)
    have h2 := h e List.mem_cons_self
    rw [List.sum_cons, List.length_cons]
    omega
def PreS : List Sv → Mu → Prop := fun ss μ => ∃ (a l : Addr) (n : Nat), ss = [.val (.ref a)] ∧ n < 2 ^ 29 ∧ Drs a l n μ
def RS : List Sv → Mu → Sv → Mu → Prop := fun ss μ s μ' => ∃ es, EsOk es ∧ s = .dat (qD (shQ es)) ∧ Stp 11 μ μ'
theorem fd_law_st_parts (T : Tx K mg) : Fd CX0 P w K mg base 4 "_law_st_parts" ["draws"] (spM K 1 PreS RS noF) := by
  have W1 := fd_law_draw (P := P) (w := w) (base := base) T
  have W2 := fd_law_pick (P := P) (w := w) (base := base) T
  have W3 := fd_law_q (P := P) (w := w) (base := base) T
  obtain ⟨fd, F, hm⟩ := T.f_law_st_parts
  refine fd_mk F hm (ok_M F sc_law_st_parts rfl fun cdv A outer s H E B M0 vs ss μ D' hr hl hP S k kn => ?_) (fun _ _ _ _ _ _ us hl => match us, hl with | [_], _ => rfl)
  obtain ⟨a, l, n, rfl, hn, hD⟩ := hP
  refine sy_setE 1 (tW_lc (own := [("lap", 2)]) (lcE_eff (B := B) (M0 := M0) (ρ := [some (.val (.ref a)), none, none, none]) (fun μ1 ds => Stp 1 μ μ1 ∧ ∃ z : Int, 0 ≤ z ∧ z < 5 ∧ ds = rgD 0 (1 + z).toNat) (fun R hR0 => ?_) (fun d ρ => ρ.set 2 (some (.dat d))) (js := [2]) (by simp)
    (fun μ1 _ i acc μ' => ∃ es : List Int, acc = es.map PyData.int ∧ es.length = i ∧ i ≤ 5 ∧ (∀ e ∈ es, 1 ≤ e ∧ e ≤ 30) ∧ Stp (2 * i) μ1 μ') (fun _ _ _ => ⟨[], rfl, rfl, by decide, by simp, Stp.zero⟩) ?_ ?_ ?_ ?_) (blkOk_by (by rfl)) rfl sc_law_st_parts.nd) sc_law_st_parts.nd
  · refine leI (pi_range1 rfl T.n_range (pa_cons pe_W pa_nil rfl)) (leW (pe_op op_add pe_W pe_W) (S.ev jd_int fun v0 H1 S1 x1 p0 => jm_call1 S1 W1 (hr.mono (by decide)) (jsa_cons (S1.atV 0).js (jsa_cons jd_int.js jsa_nil)) rfl (preD hD (by decide) (by decide) (by omega)) fun w0 s0 μ1 H2 hR S2 hv => ?_))
    obtain ⟨z, rfl, z0, z1, st1⟩ := sD hR
    exact ⟨1, z, dInt p0, dInt hv, 1 + z, rfl, by omega, by omega, hR0 _ _ _ _ ⟨st1, z, z0, z1, rfl⟩ S2 yl_rng⟩
  · rintro μ1 _ _ i acc μ' ⟨es, rfl, h2, h3, _⟩
    simp; omega
  · rintro _ d ⟨s, H, C, cl, fp, rfl⟩
    exact jg_name 2 sc_law_st_parts.nd
  · rintro μ1 _ ⟨st1, z, z0, z1, rfl⟩ i d acc μ' _ B' M' σ' H' Q hd ⟨es, rfl, h2, h3, h4, h5⟩ ⟨s, H, C, cl, fp, rfl⟩ S4 hQ
    have hi : i < (1 + z).toNat := by have := (List.getElem?_eq_some_iff.mp hd).1; rwa [rgD_len] at this
    have hD4 := h5 _ _ _ (st1 _ _ _ hD)
    refine leW (pe_op op_add pe_W pe_W) (S4.ev jd_int fun v0 H1 S5 x1 p0 => jm_callE W1 (hr.mono (by decide)) (leA (pa_cons pe_W pa_A rfl) (S5.evV (S5.atV 0) fun H6 S6 _ => leA (pa_cons pe_W pa_nil rfl)
      (jm_call1 S6 W2 (hr.mono (by decide)) (jsa_cons (S6.atV 0).js (jsa_cons (Jd.js (jd_lst (ja_cons jd_int (ja_cons jd_int (ja_cons jd_int ja_nil))))) jsa_nil)) rfl ⟨a, l, _, _, rfl, by decide, by decide, ?_, hD4⟩ fun w7 s7 μ7 H7 hR7 S7 hv7 => ?_))))
    · omega
    · obtain ⟨x, rfl, hx, st7⟩ := sP hR7
      obtain ⟨room, rfl, r0, r30⟩ : ∃ room : Int, x = .int room ∧ 1 ≤ room ∧ room ≤ 30 := by
        simp only [List.mem_cons, List.not_mem_nil, or_false] at hx
        rcases hx with rfl | rfl | rfl <;> exact ⟨_, rfl, by decide, by decide⟩
      refine callM1 S7 (ss := [.val (.ref a), .dat (.int room)]) (.cons rfl (.cons hv7 .nil)) rfl (preD (st7 _ _ _ hD4) (by omega) (by omega) (by omega)) fun w8 s8 μ8 H8 hR8 S8 hv8 => ?_
      obtain ⟨y, rfl, y0, y1, st8⟩ := sD hR8
      refine ⟨1, y, dInt p0, dInt hv8, hQ _ (.int (1 + y)) μ8 H8 ⟨es ++ [1 + y], by simp, by simp; omega, by omega, ?_, ?_⟩ S8 (.int _)⟩
      · intro e he
        rcases List.mem_append.mp he with he | he
        · exact h4 e he
        · rw [List.mem_singleton.mp he]; omega
      · exact ((h5.trans st7).trans st8).le (by omega)
  · rintro μ1 _ ⟨st1, z, z0, z1, rfl⟩ a0 acc μ' H4 ⟨es, rfl, h2, h3, h4, h5⟩ S4
    rw [rgD_len] at h2 h3 h5
    have S5 := (S4.set 1 (s := .val (.ref a0)) (v := .ref a0) rfl).frz 1 0 rfl rfl
    have S5 : Sy K B M0 [some (.val (.ref a)), some (.dat (.list (es.map PyData.int))), none, none] μ' _ H4 := S5
    obtain ⟨s1, s2⟩ := es_sum h4
    refine sy_retE (S5.ev (d := qD (shQ es)) (jd_tupOf T.n_tuple ?_) fun v H6 S6 _ pv => k v (.dat (qD (shQ es))) μ' H6 ⟨es, ⟨by omega, by omega, h4⟩, rfl, (st1.trans h5).le (by omega)⟩ (S6.one pv))
    refine (sy_lc S5 (jw_lst (S5.at 1)) (es.map fun e => some (dq (lowQ e es.sum))) (by simp) (by simp; omega) (fun d ρ => ρ.set 3 (some (.dat d))) (js := [3]) (own := [("each", 3)]) (by simp) ?_ ?_ ?_ (blkOk_by (by rfl)) rfl sc_law_st_parts.nd).is ?_
    · rintro _ d ⟨s, H, C, cl, fp, rfl⟩ _
      exact jg_name 3 sc_law_st_parts.nd
    · rintro i d o _ B' M' σ' H' h1 h2 ⟨s, H, C, cl, fp, rfl⟩ S'
      rw [List.getElem?_map] at h1 h2
      obtain ⟨n, hn, rfl⟩ := Option.map_eq_some_iff.mp h1
      rw [hn] at h2
      cases h2
      exact jts_nil
    · rintro i d x _ B' M' σ' H' h1 h2 ⟨s, H, C, cl, fp, rfl⟩ S'
      rw [List.getElem?_map] at h1 h2
      obtain ⟨n, hn, rfl⟩ := Option.map_eq_some_iff.mp h1
      rw [hn] at h2
      cases h2
      exact jd_call W3 (hr.mono (by decide)) (ja_cons (S'.at 3) (ja_cons (jd_sum rfl T.n_sum (S'.at 1)) ja_nil)) rfl ⟨_, _, rfl, by omega, bt_of (by omega) (by omega), rfl⟩
    · rw [fm_mapS]
      unfold shQ
      rw [List.map_map]; rfl
end K89

set_option maxHeartbeats 4000000
namespace K89
open PySem PySem.Spec PyProof.Rows L2 J Evl
variable {P : Program} {w : World} {K : PySem.W.Frag} {mg : Str → Option Value} {base : Heap}
def pr (d : D) : D := .tuple [d, d]
theorem snoc_cases {α : Type} : ∀ xs : List α, xs = [] ∨ ∃ ys y, xs = ys ++ [y]
  | [] => .inl rfl
  | x :: xs => by
    rcases snoc_cases xs with rfl | ⟨ys, y, rfl⟩
    · exact .inr ⟨[], x, rfl⟩
    · exact .inr ⟨x :: ys, y, rfl⟩
theorem eqv_same_tup (xs : List D) : True := trivial
theorem fd_law_same (T : Tx K mg) : Fd CX0 P w K mg base 2 "_law_same" ["found", "due"] (spD K 2 fun ds r => ∃ a, ds = [a, a] ∧ Lay 60 a ∧ sz a ≤ 80000 ∧ r = .bool true) := by
  have W := fd_law_is_truth (P := P) (w := w) (base := base) T
  obtain ⟨fd, F, hm⟩ := T.f_law_same
  refine fd_mk F hm (ok_D F sc_law_same rfl fun cdv A outer s H E M vs ds d D' hr hl hR S k _ => ?_) (fun _ _ _ _ _ _ us hl => match us, hl with | [_, _], _ => rfl)
  obtain ⟨a, rfl, hL, hz, rfl⟩ := hR
  have nd := sc_law_same.nd
  have hu := hr.units
  refine sy_setE 2 (S.evN (jn_lst (ja_cons (jd_tup (ja_cons (S.at 0) (ja_cons (S.at 1) ja_nil))) ja_nil)) fun c H1 S1 => ?_) nd
  have S1 := S1.set 2 (s := .val (.ref c)) (v := .ref c) rfl
  refine sy_while S1 (fun m ρ' μ' => ∃ ds, (∀ d ∈ ds, Lay 60 d) ∧ m = szs ds ∧ m ≤ 80000 ∧ μ' = [(c, .lst ((ds.map pr).map .dat))] ∧ ∃ o3 o4 o5 o6 o7 o8, ρ' = [some (.dat a), some (.dat a), some (.val (.ref c)), o3, o4, o5, o6, o7, o8]) (szs [a]) ⟨[a], by simpa using hL, rfl, by simpa [szs] using hz, rfl, _, _, _, _, _, _, rfl⟩ ?_ PassesOwn.never
  rintro m ρ' μ' σ' H' ⟨ds, hds, rfl, hm8, rfl, o3, o4, o5, o6, o7, o8, rfl⟩ S2
  have hsh : SeqAt.shaped (.list (ds.map pr)) = true := Lay.shaped (n := 62) (lay_lst.mpr fun x hx => by
    obtain ⟨d, hd, rfl⟩ := List.mem_map.mp hx
    refine lay_tup.mpr fun y hy => ?_
    have : y = d := by simpa using hy
    rw [this]; exact hds d hd) (by decide)
  refine ⟨_, Jt.thaw (i := 0) (jt_ne hu (S2.frzE (i := 0) (S2.atV 2).js rfl) (jd_lst ja_nil) hsh rfl), fun hp H3 S3 => ?_, fun hp H3 S3 => ?_⟩
  · rw [eqv_nil] at hp
    rcases snoc_cases ds with rfl | ⟨es, d, rfl⟩
    · cases hp
    have hd := hds d (by simp)
    have hes : ∀ e ∈ es, Lay 60 e := fun e he => hds e (by simp [he])
    have hsz : szs (es ++ [d]) = szs es + sz d := by rw [szs_app]; simp [szs]
    have dp := sz_pos d
    have S3 : Sy K H M [some (.dat a), some (.dat a), some (.val (.ref c)), o3, o4, o5, o6, o7, o8] [(c, .lst ((es.map pr).map .dat ++ [.dat (pr d)]))] σ' H3 := by
      have e : ((es ++ [d]).map pr).map Sv.dat = (es.map pr).map .dat ++ [.dat (pr d)] := by simp
      rw [← e]; exact S3
    refine sy_asgE (jm_pop (i := 0) (xs := (es.map pr).map .dat) (s := .dat (pr d)) S3 (S3.atV 2) rfl fun v H4 S4 hv => ?_)
    have hv : Dp K (hid (adr M [(c, .lst ((es.map pr).map .dat))]) H4) v (.tuple [d, d]) := hv
    refine (jg_tup rfl (jgs_cons (jg_name 3 nd) (jgs_cons (jg_name 4 nd) jgs_nil))) _ _ _ _ _ _ S4 hv _ fun σ5 S5 _ _ => ?_
    have S5 : Sy K H M [some (.dat a), some (.dat a), some (.val (.ref c)), some (.dat d), some (.dat d), o5, o6, o7, o8] [(c, .lst ((es.map pr).map .dat))] σ5 H4 := S5
    -- behind a turn that gives nothing new
    have fin : ∀ {σ6 H6 o5 o6 o7 o8}, Sy K H M [some (.dat a), some (.dat a), some (.val (.ref c)), some (.dat d), some (.dat d), o5, o6, o7, o8] [(c, .lst ((es.map pr).map .dat))] σ6 H6 → ∃ m2 ρ2 μ2, m2 < szs (es ++ [d]) ∧ (∃ ds, (∀ d ∈ ds, Lay 60 d) ∧ m2 = szs ds ∧ m2 ≤ 80000 ∧ μ2 = [(c, .lst ((ds.map pr).map .dat))] ∧ ∃ o3 o4 o5 o6 o7 o8, ρ2 = [some (.dat a), some (.dat a), some (.val (.ref c)), o3, o4, o5, o6, o7, o8]) ∧ Sy K H M ρ2 μ2 σ6 H6 :=
      fun S6 => ⟨_, _, _, by omega, ⟨es, hes, rfl, by omega, rfl, _, _, _, _, _, _, rfl⟩, S6⟩
    refine sy_if S5 (jt_or (jt_isN (S5.at 4)) fun _ => jt_val (jd_isi T.n_isinstance T.n_bool boot_bool (S5.at 4) (kit_bool d))) (fun h1 H6 S6 => ?_) (fun h1 H6 S6 => ?_)
    · refine sy_when (b := false) S6 (jt_if (jt_isN (S6.at 4)) (fun h => Jt.is (jt_notN (S6.at 3)) (by rw [h]; rfl)) (fun h => ?_)) (fun h => by cases h) fun _ H7 S7 => tB_nil (tB_nil (fin S7))
      cases d with
      | bool b => exact Jt.is (jt_not (jt_val (jd_call W (hr.mono (by decide)) (ja_cons (S6.at 3) (ja_cons (S6.at 4) ja_nil)) rfl ⟨b, b, rfl, rfl⟩))) (by cases b <;> rfl)
      | none => cases h
      | int i => cases h1
      | str x => cases h1
      | list x => cases h1
      | tuple x => cases h1
      | dict x => cases h1
    · refine sy_if S6 (jt_val (jd_isi2 T.n_isinstance T.n_int T.n_str boot_int (by decide +kernel) (S6.at 4) (kit_int d) (kit_str d))) (fun h2 H7 S7 => ?_) (fun h2 H7 S7 => ?_)
      · have hnb : dIsB d = false := by cases d <;> first | rfl | cases h1
        have hee : PyData.eqv d d = true := by
          cases d with
          | int i => simp [PyData.eqv]
          | str x => simp [PyData.eqv]
          | bool b => cases h1
          | none => cases h1
          | list x => cases h2
          | tuple x => cases h2
          | dict x => cases h2
        refine sy_when S7 (jt_or3 (jt_val (jd_isi T.n_isinstance T.n_bool boot_bool (S7.at 3) (kit_bool d))) (fun _ => jt_ne hu (jd_isi T.n_isinstance T.n_int boot_int (S7.at 3) (kit_int d)) (jd_isi T.n_isinstance T.n_int boot_int (S7.at 4) (kit_int d)) rfl rfl) (fun _ _ => jt_ne hu (S7.at 3) (S7.at 4) (hd.shaped (by decide)) (hd.shaped (by decide)))) (fun h => ?_) fun _ H8 S8 => tB_nil (tB_nil (tB_nil (fin S8)))
        rw [hnb, hee] at h
        cases q : dIsI d <;> rw [q] at h <;> cases h
      · refine sy_if S7 (jt_val (jd_isi T.n_isinstance T.n_dict (by decide +kernel) (S7.at 4) (kit_dict d))) (fun h3 H8 S8 => ?_) (fun h3 H8 S8 => ?_)
        · cases d with
          | dict x => exact absurd hd.1 (by simp [PyData.canLay0])
          | int i => cases h3
          | str x => cases h3
          | bool b => cases h3
          | none => cases h3
          | list x => cases h3
          | tuple x => cases h3
        · obtain ⟨xs, hx, hxs, hlen⟩ : ∃ xs, (d = .tuple xs ∨ d = .list xs) ∧ (∀ x ∈ xs, Lay 60 x) ∧ sz d = szs xs + 1 := by
            cases d with
            | list x => exact ⟨x, .inr rfl, fun y hy => (lay_lst.mp (hd.mono (by decide : 60 ≤ 59 + 2)) y hy).mono (by decide), rfl⟩
            | tuple x => exact ⟨x, .inl rfl, fun y hy => (lay_tup.mp (hd.mono (by decide : 60 ≤ 59 + 2)) y hy).mono (by decide), rfl⟩
            | dict x => cases h3
            | int i => cases h2
            | str x => cases h2
            | bool b => cases h1
            | none => cases h1
          have xl := szs_len xs
          have al := szs_len es
          have ia : ∀ {n : Nat} {x : Str} {p : Pos} (S : Sy K H M [some (.dat a), some (.dat a), some (.val (.ref c)), some (.dat d), some (.dat d), o5, o6, o7, o8] [(c, .lst ((es.map pr).map .dat))] σ5 H8), True := fun _ => trivial
          refine sy_set 5 S8 (jd_lst (ja_cons (jd_and (k := dIsT d) (d := .bool (dIsT d)) (jd_isi T.n_isinstance T.n_tuple boot_tuple (S8.at 3) (kit_tuple d)) (fun h => by rw [h]) fun h => Jd.is (jd_isi T.n_isinstance T.n_tuple boot_tuple (S8.at 4) (kit_tuple d)) (by rw [h]))
            (ja_cons (jd_and (k := dIsL d) (d := .bool (dIsL d)) (jd_isi T.n_isinstance T.n_list (by decide +kernel) (S8.at 3) (kit_list d)) (fun h => by rw [h]) fun h => Jd.is (jd_isi T.n_isinstance T.n_list (by decide +kernel) (S8.at 4) (kit_list d)) (by rw [h])) ja_nil))) (fun σ9 H9 S9 => ?_) nd
          refine sy_when S9 (jt_or (jt_notIn (by have := hr.un; omega) jd_bl (S9.at 5) rfl rfl rfl) fun _ => jt_neI (jd_len T.n_len (S9.at 3) hx) (jd_len T.n_len (S9.at 4) hx)) (fun h => ?_) fun _ H10 S10 => ?_
          · rcases hx with rfl | rfl <;> simp [dIsT, dIsL, PyData.eqv] at h
          · refine sy_ext S10 (S10.atV 2) (sy_lcN S10 (ds := xs.map pr) (by
                rw [show xs.map pr = zipD xs xs from (zip_same xs).symm]
                rcases hx with rfl | rfl
                · exact jw_zipT T.n_zip (S10.at 3) (S10.at 4)
                · exact jw_zipL T.n_zip (S10.at 3) (S10.at 4)) ((xs.map pr).map some) (by simp) (by simp; omega) (fun d ρ => match d with | .tuple [x, y] => (ρ.set 7 (some (.dat x))).set 8 (some (.dat y)) | _ => ρ) (js := [7, 8]) (own := [("left", 7), ("right", 8)]) (by simp) ?_ ?_ ?_ (blkOk_by (by rfl)) rfl nd) (i := 0) rfl (by simp; omega) fun H11 S11 => tB_nil (tB_nil (tB_nil (tB_nil ?_)))
            · rintro _ y ⟨s, H, C, cl, fp, rfl⟩ hy
              obtain ⟨x, _, rfl⟩ := List.mem_map.mp hy
              exact jg_tup rfl (jgs_cons (jg_name 7 nd) (jgs_cons (jg_name 8 nd) jgs_nil))
            · rintro i y o _ B' M' σ' H' h1 h2 ⟨s, H, C, cl, fp, rfl⟩ S'
              rw [List.getElem?_map, h1] at h2
              cases h2
              exact jts_nil
            · rintro i y x _ B' M' σ' H' h1 h2 ⟨s, H, C, cl, fp, rfl⟩ S'
              rw [List.getElem?_map, h1] at h2
              cases h2
              obtain ⟨x, _, rfl⟩ := List.mem_map.mp (List.mem_of_getElem? h1)
              exact jd_tup (ja_cons (S'.at 7) (ja_cons (S'.at 8) ja_nil))
            · have e : ((es ++ xs).map pr).map Sv.dat = (es.map pr).map .dat ++ ((((xs.map pr).map some).filterMap id).map .dat) := by rw [fm_some]; simp
              refine ⟨_, _, _, ?_, ⟨es ++ xs, fun e he => ?_, rfl, ?_, ?_, _, _, _, _, _, _, rfl⟩, S11⟩
              · rw [szs_app]; omega
              · rcases List.mem_append.mp he with he | he
                · exact hes e he
                · exact hxs e he
              · rw [szs_app]; omega
              · rw [e]; rfl
  · rw [eqv_nil] at hp
    exact sy_ret S3 jd_bl fun v H4 x _ p => k v H4 x p
end K89

namespace K89
/-! ### sums over places -/
def sumN : Nat → (Nat → Int) → Int
  | 0, _ => 0
  | n + 1, f => sumN n f + f n
theorem sumN_mono {f h : Nat → Int} : ∀ n : Nat, (∀ i, i < n → f i ≤ h i) → sumN n f ≤ sumN n h
  | 0, _ => Int.le_refl _
  | n + 1, k => by
    have a := sumN_mono n fun i hi => k i (by omega)
    have b := k n (by omega)
    show sumN n f + f n ≤ sumN n h + h n
    omega
theorem sumN_eq {f h : Nat → Int} (n : Nat) (k : ∀ i, i < n → f i = h i) : sumN n f = sumN n h :=
  Int.le_antisymm (sumN_mono n fun i hi => Int.le_of_eq (k i hi)) (sumN_mono n fun i hi => Int.le_of_eq (k i hi).symm)
theorem sumN_mul (f : Nat → Int) (c : Int) : ∀ n : Nat, sumN n (fun i => f i * c) = sumN n f * c
  | 0 => by simp [sumN]
  | n + 1 => by
    have a := sumN_mul f c n
    show sumN n (fun i => f i * c) + f n * c = (sumN n f + f n) * c
    rw [a, Int.add_mul]
theorem sumN_lt {f h : Nat → Int} : ∀ n : Nat, sumN n f < sumN n h → ∃ i, i < n ∧ f i < h i
  | 0, k => absurd k (Int.lt_irrefl _)
  | n + 1, k => by
    have k' : sumN n f + f n < sumN n h + h n := k
    by_cases q : f n < h n
    · exact ⟨n, by omega, q⟩
    · obtain ⟨i, hi, z⟩ := sumN_lt (f := f) (h := h) n (by omega)
      exact ⟨i, by omega, z⟩
/-- one place differs -/
theorem sumN_at {f h : Nat → Int} {p : Nat} (d : Int) : ∀ n : Nat, p < n → (∀ i, i < n → i ≠ p → h i = f i) → h p = f p + d → sumN n h = sumN n f + d
  | 0, z, _, _ => absurd z (by omega)
  | n + 1, hp, k, e => by
    show sumN n h + h n = sumN n f + f n + d
    by_cases q : p = n
    · have a := sumN_eq (f := h) (h := f) n fun i hi => k i (by omega) (by omega)
      rw [a, ← q, e]
      omega
    · have a := sumN_at (f := f) (h := h) (p := p) d n (by omega) (fun i hi => k i (by omega)) e
      have b := k n (by omega) (fun z => q z.symm)
      rw [a, b]
      omega
theorem sumN_zero {f : Nat → Int} (n : Nat) (nn : ∀ i, i < n → 0 ≤ f i) (z : sumN n f ≤ 0) : ∀ i, i < n → f i ≤ 0 := by
  induction n with
  | zero => intro i hi; omega
  | succ n ih =>
    have z' : sumN n f + f n ≤ 0 := z
    have a : 0 ≤ sumN n f := by
      have := sumN_mono (f := fun _ => 0) (h := f) n fun i hi => nn i (by omega)
      have e : sumN n (fun _ => (0 : Int)) = 0 := by
        have := sumN_mul (fun _ => 0) 0 n
        simpa using this
      omega
    have b := nn n (by omega)
    intro i hi
    by_cases q : i = n
    · subst q; omega
    · exact ih (fun i hi => nn i (by omega)) (by omega) i (by omega)
/-! ### what is due by a time and not yet given -/
def pos (x : Int) : Int := if 0 < x then x else 0
theorem pos_nn (x : Int) : 0 ≤ pos x := by unfold pos; split <;> omega
theorem pos_ge (x : Int) : x ≤ pos x := by unfold pos; split <;> omega
/-- k places, the i-th has e i shares of S -/
structure Shares (k : Nat) (e : Nat → Int) (S : Int) : Prop where
  S0 : 0 < S
  e0 : ∀ i, i < k → 0 < e i
  sum : sumN k e = S
/-- behind c seats, g given: the lower and the upper bounds, and each later time's seats that are due -/
structure Good (k : Nat) (e : Nat → Int) (S : Int) (c : Int) (g : Nat → Int) : Prop where
  c0 : 0 ≤ c
  nn : ∀ i, i < k → 0 ≤ g i
  sum : sumN k g = c
  up : ∀ i, i < k → g i * S < c * e i + S
  due : ∀ T : Int, c ≤ T → sumN k (fun i => pos (T * e i / S - g i)) ≤ T - c
variable {k : Nat} {e g : Nat → Int} {S c : Int}
theorem Good.start (h : Shares k e S) : Good k e S 0 (fun _ => 0) where
  c0 := Int.le_refl _
  nn := fun _ _ => Int.le_refl _
  sum := by
    have := sumN_mul (fun _ => 0) 0 k
    simpa using this
  up := fun i hi => by have := h.S0; omega
  due := fun T hT => by
    have h0 := h.S0
    have a : sumN k (fun i => pos (T * e i / S - 0)) * S ≤ sumN k (fun i => e i * T) := by
      rw [← sumN_mul]
      refine sumN_mono k fun i hi => ?_
      have e0 := h.e0 i hi
      have p : 0 ≤ T * e i := Int.mul_nonneg hT (Int.le_of_lt e0)
      have q : 0 ≤ T * e i / S := Int.ediv_nonneg p (Int.le_of_lt h0)
      have r : T * e i / S * S ≤ T * e i := Int.ediv_mul_le _ (by omega)
      have s : pos (T * e i / S - 0) = T * e i / S := by unfold pos; split <;> omega
      rw [s, Int.mul_comm (e i) T]
      exact r
    rw [sumN_mul, h.sum, Int.mul_comm S T] at a
    have b := Int.le_of_mul_le_mul_right a h0
    omega
/-- somebody may have the next seat -/
theorem Good.open_ (G : Good k e S c g) (h : Shares k e S) : ∃ i, i < k ∧ g i * S < e i * (c + 1) := by
  refine sumN_lt k ?_
  rw [sumN_mul, sumN_mul, G.sum, h.sum, Int.mul_add, Int.mul_comm c S]
  have := h.S0
  omega
/-- the lower bound -/
theorem Good.low (G : Good k e S c g) : ∀ i, i < k → c * e i / S ≤ g i := fun i hi => by
  have a := G.due c (Int.le_refl _)
  have b := sumN_zero (f := fun i => pos (c * e i / S - g i)) k (fun i _ => pos_nn _) (by omega) i hi
  have c := pos_ge (c * e i / S - g i)
  omega
/-- the seat is given to p, whose due time is least -/
theorem Good.step (G : Good k e S c g) (h : Shares k e S) {p : Nat} (hp : p < k) (ho : g p * S < e p * (c + 1))
    (hm : ∀ i, i < k → g i * S < e i * (c + 1) → ∀ T : Int, g i + 1 ≤ T * e i / S → g p + 1 ≤ T * e p / S) : Good k e S (c + 1) (fun i => if i = p then g i + 1 else g i) where
  c0 := by have := G.c0; omega
  nn := fun i hi => by have := G.nn i hi; split <;> omega
  sum := by
    have := sumN_at (f := g) (h := fun i => if i = p then g i + 1 else g i) 1 k hp (fun i _ z => if_neg z) (if_pos rfl)
    rw [this, G.sum]
  up := fun i hi => by
    have a := G.up i hi
    have h0 := h.S0
    have e0 := h.e0 i hi
    show (if i = p then g i + 1 else g i) * S < (c + 1) * e i + S
    split
    · rename_i q
      subst q
      rw [Int.add_mul, Int.mul_comm (c + 1) (e i)]
      omega
    · rw [Int.add_mul]
      omega
  due := fun T hT => by
    have h0 := h.S0
    by_cases q : g p + 1 ≤ T * e p / S
    · have a := G.due T (by omega)
      have b := sumN_at (f := fun i => pos (T * e i / S - g i)) (h := fun i => pos (T * e i / S - (if i = p then g i + 1 else g i))) (p := p) (-1) k hp (fun i _ z => by simp only [if_neg z]) (by
        simp only [if_true]
        unfold pos
        split <;> split <;> omega)
      rw [b]
      omega
    · have a : sumN k (fun i => pos (T * e i / S - (if i = p then g i + 1 else g i))) * S ≤ sumN k (fun i => e i * (T - (c + 1))) := by
        rw [← sumN_mul]
        refine sumN_mono k fun i hi => ?_
        have e0 := h.e0 i hi
        have nn : 0 ≤ e i * (T - (c + 1)) := Int.mul_nonneg (Int.le_of_lt e0) (by omega)
        have r : T * e i / S * S ≤ T * e i := Int.ediv_mul_le _ (by omega)
        show pos (T * e i / S - (if i = p then g i + 1 else g i)) * S ≤ _
        by_cases z : i = p
        · have w : pos (T * e i / S - (if i = p then g i + 1 else g i)) = 0 := by
            rw [if_pos z]
            subst z
            unfold pos
            split <;> omega
          rw [w, Int.zero_mul]
          exact nn
        · rw [if_neg z]
          by_cases y : g i + 1 ≤ T * e i / S
          · have nb : ¬ g i * S < e i * (c + 1) := fun w => q (hm i hi w T y)
            have w : pos (T * e i / S - g i) = T * e i / S - g i := by unfold pos; split <;> omega
            rw [w, Int.sub_mul, Int.mul_sub, Int.mul_comm (e i) T]
            omega
          · have w : pos (T * e i / S - g i) = 0 := by unfold pos; split <;> omega
            rw [w, Int.zero_mul]
            exact nn
      rw [sumN_mul, h.sum, Int.mul_comm S] at a
      exact Int.le_of_mul_le_mul_right a h0
end K89

set_option maxHeartbeats 4000000
namespace K89
open PySem PySem.Spec PyProof.Rows L2 J Evl
/-! ### drawn shares are shares -/
theorem lowQ_pos {n d : Int} (h : 0 < d) : ∃ g : Int, 0 < g ∧ n = (lowQ n d).1 * g ∧ d = (lowQ n d).2 * g ∧ g = ((Nat.gcd n.natAbs d.natAbs : Nat) : Int) := by
  have hg : 0 < Nat.gcd n.natAbs d.natAbs := Nat.gcd_pos_of_pos_right _ (by omega)
  refine ⟨((Nat.gcd n.natAbs d.natAbs : Nat) : Int), by omega, ?_, ?_, rfl⟩
  · unfold lowQ
    rw [if_pos h]
    exact (Int.ediv_mul_cancel (Int.ofNat_dvd_left.2 (Nat.gcd_dvd_left _ _))).symm
  · unfold lowQ
    rw [if_pos h]
    exact (Int.ediv_mul_cancel (Int.ofNat_dvd_left.2 (Nat.gcd_dvd_right _ _))).symm
theorem lowQ_cop {n d : Int} (h : 0 < d) : Nat.gcd (lowQ n d).1.natAbs (lowQ n d).2.natAbs = 1 := by
  obtain ⟨g, g0, e1, e2, e3⟩ := lowQ_pos (n := n) h
  have h1 : n.natAbs = (lowQ n d).1.natAbs * g.natAbs := by rw [← Int.natAbs_mul, ← e1]
  have h2 : d.natAbs = (lowQ n d).2.natAbs * g.natAbs := by rw [← Int.natAbs_mul, ← e2]
  have h3 : Nat.gcd n.natAbs d.natAbs = Nat.gcd (lowQ n d).1.natAbs (lowQ n d).2.natAbs * g.natAbs := by
    rw [← Nat.gcd_mul_right, ← h1, ← h2]
  have h4 : g.natAbs = Nat.gcd n.natAbs d.natAbs := by omega
  have h5 : 0 < g.natAbs := by omega
  rw [← h4] at h3
  have h6 : g.natAbs * 1 = g.natAbs * Nat.gcd (lowQ n d).1.natAbs (lowQ n d).2.natAbs := by rw [Nat.mul_one, Nat.mul_comm]; exact h3
  exact (Nat.eq_of_mul_eq_mul_left h5 h6).symm
theorem lowQ_scale {n d k : Int} (h : 0 < d) (hk : 0 < k) : lowQ (n * k) (d * k) = lowQ n d := by
  have hdk : 0 < d * k := Int.mul_pos h hk
  have eg : ((Nat.gcd (n * k).natAbs (d * k).natAbs : Nat) : Int) = ((Nat.gcd n.natAbs d.natAbs : Nat) : Int) * k := by
    rw [Int.natAbs_mul, Int.natAbs_mul, Nat.gcd_mul_right, Int.natCast_mul]
    congr 1
    omega
  unfold lowQ
  rw [if_pos h, if_pos hdk, eg]
  show (_ / _, _ / _) = (_ / _, _ / _)
  rw [Int.mul_ediv_mul_of_pos_left _ _ hk, Int.mul_ediv_mul_of_pos_left _ _ hk]
theorem plus_low {a e S : Int} (h : 0 < S) : plusQ (lowQ a S) (lowQ e S) = lowQ (a + e) S := by
  obtain ⟨g, g0, e1, e2, _⟩ := lowQ_pos (n := a) h
  obtain ⟨f, f0, e3, e4, _⟩ := lowQ_pos (n := e) h
  generalize lowQ a S = p at *
  generalize lowQ e S = q at *
  unfold plusQ
  have p2 : 0 < p.2 := by
    rcases Int.lt_trichotomy p.2 0 with x | x | x
    · have := Int.mul_neg_of_neg_of_pos x g0; omega
    · rw [x] at e2; omega
    · exact x
  have q2 : 0 < q.2 := by
    rcases Int.lt_trichotomy q.2 0 with x | x | x
    · have := Int.mul_neg_of_neg_of_pos x f0; omega
    · rw [x] at e4; omega
    · exact x
  rw [← lowQ_scale (k := g * f) (Int.mul_pos p2 q2) (Int.mul_pos g0 f0), ← lowQ_scale (n := a + e) (d := S) (k := S) h h]
  congr 1
  · have h1 : p.1 * q.2 * (g * f) = a * S := by
      have : p.1 * q.2 * (g * f) = (p.1 * g) * (q.2 * f) := by ac_rfl
      rw [this, ← e1, ← e4]
    have h2 : q.1 * p.2 * (g * f) = e * S := by
      have : q.1 * p.2 * (g * f) = (q.1 * f) * (p.2 * g) := by ac_rfl
      rw [this, ← e3, ← e2]
    rw [Int.add_mul, h1, h2, Int.add_mul]
  · have : p.2 * q.2 * (g * f) = (p.2 * g) * (q.2 * f) := by ac_rfl
    rw [this, ← e2, ← e4]
theorem tot_low {S : Int} (h : 0 < S) : ∀ (es : List Int) (a : Int), (es.map fun e => lowQ e S).foldl plusQ (lowQ a S) = lowQ (a + es.sum) S
  | [], a => by simp
  | e :: es, a => by
    rw [List.map_cons, List.foldl_cons, plus_low h, tot_low h es, List.sum_cons, Int.add_assoc]
theorem low0 {S : Int} (h : 0 < S) : lowQ 0 S = (0, 1) := by
  unfold lowQ
  rw [if_pos h]
  have e : ((Nat.gcd (0 : Int).natAbs S.natAbs : Nat) : Int) = S := by
    show ((Nat.gcd 0 S.natAbs : Nat) : Int) = S
    rw [Nat.gcd_zero_left]; omega
  rw [e]
  show ((0 : Int) / S, S / S) = (0, 1)
  rw [Int.zero_ediv, Int.ediv_self (by omega)]
theorem low1 {S : Int} (h : 0 < S) : lowQ S S = (1, 1) := by
  unfold lowQ
  rw [if_pos h]
  have e : ((Nat.gcd S.natAbs S.natAbs : Nat) : Int) = S := by rw [Nat.gcd_self]; omega
  rw [e]
  show (S / S, S / S) = (1, 1)
  rw [Int.ediv_self (by omega)]
theorem tot_sh {es : List Int} (h : 0 < es.sum) : totQ (shQ es) = (1, 1) := by
  unfold totQ shQ
  rw [← low0 h, tot_low h, Int.zero_add, low1 h]
/-- what is known of the i-th share -/
structure ShI (e S : Int) (q : Int × Int) : Prop where
  n0 : 0 < q.1
  d0 : 0 < q.2
  n30 : q.1 ≤ 30
  d150 : q.2 ≤ 150
  g : ∃ g : Int, 0 < g ∧ e = q.1 * g ∧ S = q.2 * g
  cop : Nat.gcd q.1.natAbs q.2.natAbs = 1
theorem shI {e S : Int} (h1 : 1 ≤ e) (h30 : e ≤ 30) (h0 : 0 < S) (h150 : S ≤ 150) : ShI e S (lowQ e S) := by
  obtain ⟨g, g0, e1, e2, _⟩ := lowQ_pos (n := e) h0
  have c := lowQ_cop (n := e) h0
  generalize lowQ e S = q at *
  have q1 : 0 < q.1 := by
    rcases Int.lt_trichotomy q.1 0 with x | x | x
    · have := Int.mul_neg_of_neg_of_pos x g0; omega
    · rw [x] at e1; omega
    · exact x
  have q2 : 0 < q.2 := by
    rcases Int.lt_trichotomy q.2 0 with x | x | x
    · have := Int.mul_neg_of_neg_of_pos x g0; omega
    · rw [x] at e2; omega
    · exact x
  have le1 : q.1 ≤ q.1 * g := by
    have := Int.mul_le_mul_of_nonneg_left (show (1 : Int) ≤ g by omega) (Int.le_of_lt q1)
    omega
  have le2 : q.2 ≤ q.2 * g := by
    have := Int.mul_le_mul_of_nonneg_left (show (1 : Int) ≤ g by omega) (Int.le_of_lt q2)
    omega
  exact ⟨q1, q2, by omega, by omega, ⟨g, g0, e1, e2⟩, c⟩
theorem EsOk.sum {es : List Int} (h : EsOk es) : 0 < es.sum ∧ es.sum ≤ 150 := by
  have := es_sum h.2.2
  have a := h.1
  have b := h.2.1
  omega
theorem EsOk.at {es : List Int} (h : EsOk es) {i : Nat} {e : Int} (he : es[i]? = some e) : (shQ es)[i]? = some (lowQ e es.sum) ∧ ShI e es.sum (lowQ e es.sum) := by
  obtain ⟨h1, h2⟩ := h.2.2 e (List.mem_of_getElem? he)
  refine ⟨by unfold shQ; rw [List.getElem?_map, he]; rfl, shI h1 h2 h.sum.1 h.sum.2⟩
theorem EsOk.all {es : List Int} (h : EsOk es) : ∀ q ∈ shQ es, ∃ e ∈ es, q = lowQ e es.sum ∧ ShI e es.sum q := fun q hq => by
  obtain ⟨e, he, rfl⟩ := List.mem_map.mp hq
  obtain ⟨h1, h2⟩ := h.2.2 e he
  exact ⟨e, he, rfl, shI h1 h2 h.sum.1 h.sum.2⟩
theorem bt150 {x : Int} (h0 : 0 < x) (h : x ≤ 150) : Bt 64 x := bt_of (by omega) (by omega)
theorem EsOk.sh {es : List Int} (h : EsOk es) : Sh (shQ es) := ⟨by unfold shQ; rw [List.length_map]; exact h.1, by unfold shQ; rw [List.length_map]; exact h.2.1, fun q hq => by
  obtain ⟨e, _, _, x⟩ := h.all q hq
  exact ⟨⟨x.d0, bt150 x.n0 (by have := x.n30; omega), bt150 x.d0 x.d150⟩, x.n0⟩⟩
theorem EsOk.dn {es : List Int} (h : EsOk es) : Dn (shQ es) := ⟨h.sh.2.1, fun q hq => by
  obtain ⟨e, _, _, x⟩ := h.all q hq
  have := x.d150
  exact ⟨x.d0, by omega⟩⟩
theorem EsOk.ask {es : List Int} (h : EsOk es) : Ask (qD (shQ es)) := fun l e x hx => by
  cases e
  obtain ⟨q, hq, rfl⟩ := List.mem_map.mp hx
  obtain ⟨_, b1, b2⟩ := (h.sh.2.2 q hq).1
  refine ⟨fun l' e' => by cases e'; simp, fun n m e' => ?_⟩
  cases e'
  exact ⟨b1, b2⟩
theorem map_toQ (qs : List (Int × Int)) : (qs.map dq).map toQ = qs := by
  rw [List.map_map]
  exact (List.map_congr_left fun x _ => rfl).trans (List.map_id qs)
theorem all_sh {es : List Int} (h : EsOk es) : ((shQ es).map dq).all isSh = true := List.all_eq_true.mpr fun x hx => by
  obtain ⟨q, hq, rfl⟩ := List.mem_map.mp hx
  obtain ⟨e, _, _, y⟩ := h.all q hq
  show ((decide (0 < q.2) && decide (((Nat.gcd q.1.natAbs q.2.natAbs : Nat) : Int) = 1)) && decide (0 < q.1)) = true
  rw [decide_eq_true y.d0, y.cop, decide_eq_true y.n0]
  rfl
theorem EsOk.isP {es : List Int} (h : EsOk es) : K89.isP (qD (shQ es)) = true := by
  have hl : ((shQ es).map dq).length = es.length := by unfold shQ; rw [List.length_map, List.length_map]
  show ((decide (1 ≤ (((shQ es).map dq).length : Int)) && decide ((((shQ es).map dq).length : Int) ≤ 5)) && (((shQ es).map dq).all isSh && PyData.eqv (dq (totQ (((shQ es).map dq).map toQ))) (dq (1, 1)))) = true
  have a := h.1
  have b := h.2.1
  rw [hl, decide_eq_true (by omega), decide_eq_true (by omega), all_sh h, map_toQ, tot_sh h.sum.1]
  rfl
end K89

set_option maxHeartbeats 4000000
namespace K89
open PySem PySem.Spec PyProof.Rows L2 J Evl
/-! ### the choice -/
def fnI (l : List Int) : Nat → Int := fun i => l.getD i 0
theorem fnI_at {l : List Int} {i : Nat} {x : Int} (h : l[i]? = some x) : fnI l i = x := by
  unfold fnI; rw [List.getD_eq_getElem?_getD, h]; rfl
theorem sum_app : ∀ (xs ys : List Int), (xs ++ ys).sum = xs.sum + ys.sum
  | [], ys => by simp
  | x :: xs, ys => by rw [List.cons_append, List.sum_cons, List.sum_cons, sum_app xs ys, Int.add_assoc]
theorem sumN_fn : ∀ (l : List Int), sumN l.length (fnI l) = l.sum := by
  have key : ∀ (l : List Int) (k : Nat), k ≤ l.length → sumN k (fnI l) = (l.take k).sum := by
    intro l k
    induction k with
    | zero => intro _; simp [sumN]
    | succ k ih =>
      intro hk
      have hx : l[k]? = some l[k] := List.getElem?_eq_getElem (by omega)
      show sumN k (fnI l) + fnI l k = _
      rw [ih (by omega), fnI_at hx, List.take_add_one, hx, sum_app]
      show _ = _ + (l[k] + 0)
      omega
  intro l
  rw [key l l.length (Nat.le_refl _), List.take_length]
/-- the i-th may have a seat, told by e and S -/
theorem may_iff {e S g c : Int} {q : Int × Int} (h : ShI e S q) : mayF q g c = true ↔ g * S < e * (c + 1) := by
  obtain ⟨f, f0, rfl, rfl⟩ := h.g
  unfold mayF
  rw [decide_eq_true_eq]
  have e1 : g * (q.2 * f) = g * q.2 * f := by ac_rfl
  have e2 : q.1 * f * (c + 1) = q.1 * (c + 1) * f := by ac_rfl
  rw [e1, e2]
  exact ⟨fun x => Int.mul_lt_mul_of_pos_right x f0, fun x => Int.lt_of_mul_lt_mul_right x (Int.le_of_lt f0)⟩
theorem due_iff {e S g T : Int} {q : Int × Int} (h : ShI e S q) (hS : 0 < S) : dueF q g ≤ T ↔ g + 1 ≤ T * e / S := by
  obtain ⟨f, f0, rfl, rfl⟩ := h.g
  unfold dueF
  have a : -(-(g + 1) * q.2 / q.1) ≤ T ↔ -T ≤ -(g + 1) * q.2 / q.1 := by omega
  rw [a, Int.le_ediv_iff_mul_le h.n0]
  have b : g + 1 ≤ T * (q.1 * f) / (q.2 * f) ↔ g + 1 ≤ T * q.1 / q.2 := by
    have : T * (q.1 * f) = T * q.1 * f := by ac_rfl
    rw [this, Int.mul_ediv_mul_of_pos_left _ _ f0]
  rw [b, Int.le_ediv_iff_mul_le h.d0]
  have c1 : -T * q.1 = -(T * q.1) := Int.neg_mul ..
  have c2 : -(g + 1) * q.2 = -((g + 1) * q.2) := Int.neg_mul ..
  rw [c1, c2]
  omega
section
variable {qs : List (Int × Int)} {gs : List Int} {c : Int}
theorem bestAt_succ {i : Nat} {q : Int × Int} {g : Int} (hq : qs[i]? = some q) (hg : gs[i]? = some g) : bestAt qs gs c (i + 1) = bestStep q g c i (bestAt qs gs c i) := by
  show (match qs[i]?, gs[i]? with | some q, some g => bestStep q g c i (bestAt qs gs c i) | _, _ => bestAt qs gs c i) = _
  rw [hq, hg]
/-- the one with the least due of those that may; one is found where one may -/
theorem bestAt_spec (hl : gs.length = qs.length) : ∀ k, k ≤ qs.length →
    (∀ b, bestAt qs gs c k = some b → (∃ (p : Nat) (q : Int × Int) (g : Int), b.2 = (p : Int) ∧ p < k ∧ qs[p]? = some q ∧ gs[p]? = some g ∧ mayF q g c = true ∧ b.1 = dueF q g) ∧ ∀ i q g, i < k → qs[i]? = some q → gs[i]? = some g → mayF q g c = true → b.1 ≤ dueF q g) ∧
    (bestAt qs gs c k = none → ∀ i q g, i < k → qs[i]? = some q → gs[i]? = some g → mayF q g c = false) := by
  intro k
  induction k with
  | zero => intro _; exact ⟨(fun b h => by cases h), fun _ i _ _ hi => by omega⟩
  | succ k ih =>
    intro hk
    obtain ⟨h1, h2⟩ := ih (by omega)
    have hq : qs[k]? = some qs[k] := List.getElem?_eq_getElem (by omega)
    have hg : gs[k]? = some (gs[k]'(by omega)) := List.getElem?_eq_getElem (by omega)
    rw [bestAt_succ hq hg]
    generalize qs[k] = q at hq
    generalize gs[k]'(by omega) = g at hg
    unfold bestStep
    cases hm : mayF q g c with
    | false =>
      rw [Bool.false_and, if_neg (by decide)]
      refine ⟨fun b hb => ?_, fun hn i q' g' hi e1 e2 => ?_⟩
      · obtain ⟨⟨p, q', g', a1, a2, a3⟩, h4⟩ := h1 b hb
        refine ⟨⟨p, q', g', a1, by omega, a3⟩, fun i q2 g2 hi e1 e2 e3 => ?_⟩
        by_cases z : i = k
        · subst z
          rw [hq] at e1; rw [hg] at e2; cases e1; cases e2
          rw [hm] at e3; cases e3
        · exact h4 i q2 g2 (by omega) e1 e2 e3
      · by_cases z : i = k
        · subst z
          rw [hq] at e1; rw [hg] at e2; cases e1; cases e2
          exact hm
        · exact h2 hn i q' g' (by omega) e1 e2
    | true =>
      rw [Bool.true_and]
      cases hb : better (dueF q g) (bestAt qs gs c k) with
      | true =>
        rw [if_pos rfl]
        refine ⟨fun b e => ?_, fun e => by cases e⟩
        cases e
        refine ⟨⟨k, q, g, rfl, by omega, hq, hg, hm, rfl⟩, fun i q2 g2 hi e1 e2 e3 => ?_⟩
        by_cases z : i = k
        · subst z
          rw [hq] at e1; rw [hg] at e2; cases e1; cases e2
          exact Int.le_refl _
        · cases hbk : bestAt qs gs c k with
          | none => rw [h2 hbk i q2 g2 (by omega) e1 e2] at e3; cases e3
          | some b' =>
            have := (h1 b' hbk).2 i q2 g2 (by omega) e1 e2 e3
            rw [hbk] at hb
            have hb : dueF q g < b'.1 := of_decide_eq_true hb
            show dueF q g ≤ _
            omega
      | false =>
        rw [if_neg (by decide)]
        cases hbk : bestAt qs gs c k with
        | none => rw [hbk] at hb; cases hb
        | some b' =>
          rw [hbk] at hb
          have hb : ¬ dueF q g < b'.1 := of_decide_eq_false hb
          obtain ⟨⟨p, q', g', a1, a2, a3⟩, h4⟩ := h1 b' hbk
          refine ⟨fun b e => ?_, fun e => by cases e⟩
          cases e
          refine ⟨⟨p, q', g', a1, by omega, a3⟩, fun i q2 g2 hi e1 e2 e3 => ?_⟩
          by_cases z : i = k
          · subst z
            rw [hq] at e1; rw [hg] at e2; cases e1; cases e2
            omega
          · exact h4 i q2 g2 (by omega) e1 e2 e3
end
/-- the seats so far are as they have to be -/
def Gd (es : List Int) (c : Int) (gs : List Int) : Prop := gs.length = es.length ∧ Good es.length (fnI es) es.sum c (fnI gs)
theorem EsOk.shares {es : List Int} (h : EsOk es) : Shares es.length (fnI es) es.sum := ⟨h.sum.1, fun i hi => by
  have hx : es[i]? = some es[i] := List.getElem?_eq_getElem hi
  rw [fnI_at hx]
  have := (h.2.2 es[i] (List.getElem_mem hi)).1
  omega, sumN_fn es⟩
theorem fn_set {gs : List Int} {p : Nat} {g : Int} (hg : gs[p]? = some g) : ∀ i, fnI (gs.set p (g + 1)) i = if i = p then fnI gs i + 1 else fnI gs i := fun i => by
  by_cases h : i = p
  · subst h
    rw [if_pos rfl, fnI_at hg]
    exact fnI_at (List.getElem?_set_self (List.getElem?_eq_some_iff.mp hg).1)
  · rw [if_neg h]
    unfold fnI
    rw [List.getD_eq_getElem?_getD, List.getD_eq_getElem?_getD, List.getElem?_set_ne (Ne.symm h)]
theorem good_congr {k : Nat} {e : Nat → Int} {S c : Int} {g g' : Nat → Int} (h : Good k e S c g) (hg : ∀ i, g' i = g i) : Good k e S c g' := by
  have : g' = g := funext hg
  rw [this]; exact h
theorem gd_start {es : List Int} (h : EsOk es) : Gd es 0 (List.replicate es.length 0) := ⟨by simp, good_congr (Good.start h.shares) fun i => by
  unfold fnI
  rw [List.getD_eq_getElem?_getD, List.getElem?_replicate]
  split <;> rfl⟩
/-- there is a place for the next seat, and behind it all is as it has to be -/
theorem gd_step {es gs : List Int} {c : Int} (h : EsOk es) (G : Gd es c gs) : ∃ (b : Int × Int) (p : Nat) (g : Int), bestAt (shQ es) gs c (shQ es).length = some b ∧ b.2 = (p : Int) ∧ gs[p]? = some g ∧ Gd es (c + 1) (gs.set p (g + 1)) := by
  obtain ⟨hl, G⟩ := G
  have hls : (shQ es).length = es.length := by unfold shQ; rw [List.length_map]
  obtain ⟨h1, h2⟩ := bestAt_spec (qs := shQ es) (gs := gs) (c := c) (by omega) (shQ es).length (Nat.le_refl _)
  cases hb : bestAt (shQ es) gs c (shQ es).length with
  | none =>
    obtain ⟨i, hi, ho⟩ := G.open_ h.shares
    have he : es[i]? = some es[i] := List.getElem?_eq_getElem hi
    have hg : gs[i]? = some (gs[i]'(by omega)) := List.getElem?_eq_getElem (by omega)
    obtain ⟨hq, hs⟩ := h.at he
    have := h2 hb i _ _ (by omega) hq hg
    rw [fnI_at he, fnI_at hg] at ho
    rw [(may_iff hs).mpr ho] at this
    cases this
  | some b =>
    obtain ⟨⟨p, q, g, b2, hp, hq, hg, hm, b1⟩, hmin⟩ := h1 b hb
    have hpe : p < es.length := by omega
    have he : es[p]? = some es[p] := List.getElem?_eq_getElem hpe
    obtain ⟨hq', hs⟩ := h.at he
    rw [hq] at hq'
    cases hq'
    refine ⟨b, p, g, rfl, b2, hg, by rw [List.length_set]; exact hl, good_congr (G.step h.shares hpe ?_ fun i hi ho T hT => ?_) (fn_set hg)⟩
    · rw [fnI_at hg, fnI_at he]; exact (may_iff hs).mp hm
    · have hei : es[i]? = some es[i] := List.getElem?_eq_getElem hi
      have hgi : gs[i]? = some (gs[i]'(by omega)) := List.getElem?_eq_getElem (by omega)
      obtain ⟨hqi, hsi⟩ := h.at hei
      rw [fnI_at hei, fnI_at hgi] at ho hT
      have a := hmin i _ _ (by omega) hqi hgi ((may_iff hsi).mpr ho)
      rw [b1] at a
      have b := (due_iff hsi h.sum.1).mpr hT
      rw [fnI_at hg, fnI_at he]
      exact (due_iff hs h.sum.1).mp (Int.le_trans a b)
/-- the bounds that the law asks for -/
theorem gd_bounds {es gs : List Int} {c : Int} (h : EsOk es) (G : Gd es c gs) {i : Nat} {q : Int × Int} {g : Int} (hq : (shQ es)[i]? = some q) (hg : gs[i]? = some g) : q.1 * c / q.2 ≤ g ∧ g ≤ 0 - (0 - q.1 * c) / q.2 ∧ 0 ≤ g ∧ (g - 1) * q.2 < q.1 * c := by
  obtain ⟨hl, G⟩ := G
  have hi : i < es.length := by have := (List.getElem?_eq_some_iff.mp hg).1; omega
  have he : es[i]? = some es[i] := List.getElem?_eq_getElem hi
  obtain ⟨hq', hs⟩ := h.at he
  rw [hq] at hq'
  cases hq'
  have a := G.low i hi
  have b := G.up i hi
  have n := G.nn i hi
  rw [fnI_at he, fnI_at hg] at a b
  rw [fnI_at hg] at n
  have S0 := h.sum.1
  obtain ⟨f, f0, e1, e2⟩ := hs.g
  generalize lowQ es[i] es.sum = q at *
  have up : (g - 1) * q.2 < q.1 * c := by
    rw [e1, e2] at b
    have x1 : g * (q.2 * f) = g * q.2 * f := by ac_rfl
    have x2 : c * (q.1 * f) = q.1 * c * f := by ac_rfl
    rw [x1, x2] at b
    have : g * q.2 * f < (q.1 * c + q.2) * f := by rw [Int.add_mul]; exact b
    have := Int.lt_of_mul_lt_mul_right this (Int.le_of_lt f0)
    rw [Int.sub_mul]
    omega
  refine ⟨?_, ?_, n, up⟩
  · rw [e1, e2] at a
    have x2 : c * (q.1 * f) = q.1 * c * f := by ac_rfl
    rw [x2, Int.mul_ediv_mul_of_pos_left _ _ f0] at a
    exact a
  · have d0 := hs.d0
    have : (0 - q.1 * c) / q.2 < -g + 1 := by
      rw [Int.ediv_lt_iff_lt_mul d0]
      have : (-g + 1) * q.2 = -((g - 1) * q.2) := by rw [← Int.neg_mul]; congr 1; omega
      rw [this]; omega
    omega
theorem gd_sum {es gs : List Int} {c : Int} (G : Gd es c gs) : gs.sum = c ∧ 0 ≤ c := by
  obtain ⟨hl, G⟩ := G
  have := G.sum
  rw [← hl, sumN_fn] at this
  exact ⟨this, G.c0⟩
/-- whatever is given to one of them is at most all that was given -/
theorem gd_le {es gs : List Int} {c : Int} (h : EsOk es) (G : Gd es c gs) {i : Nat} {g : Int} (hg : gs[i]? = some g) : 0 ≤ g ∧ g ≤ 30 * c + 1 := by
  have hi : i < es.length := by have := (List.getElem?_eq_some_iff.mp hg).1; have := G.1; omega
  have he : es[i]? = some es[i] := List.getElem?_eq_getElem hi
  obtain ⟨hq, hs⟩ := h.at he
  obtain ⟨_, _, n, up⟩ := gd_bounds h G hq hg
  refine ⟨n, ?_⟩
  obtain ⟨_, c0⟩ := gd_sum G
  have d0 := hs.d0
  have n30 := hs.n30
  generalize lowQ es[i] es.sum = q at *
  have a : q.1 * c ≤ 30 * c := Int.mul_le_mul_of_nonneg_right n30 c0
  rcases Int.lt_or_le g 1 with z | z
  · omega
  · have b : (g - 1) * 1 ≤ (g - 1) * q.2 := Int.mul_le_mul_of_nonneg_left (by omega) (by omega)
    omega
end K89

set_option maxHeartbeats 4000000
namespace K89
open PySem PySem.Spec PyProof.Rows L2 J Evl
/-! ### the run of seats -/
def nxt (qs : List (Int × Int)) (gs : List Int) (c : Int) : Nat := match bestAt qs gs c qs.length with
  | none => 0
  | some b => b.2.toNat
def bump (gs : List Int) (p : Nat) : List Int := gs.set p (gs.getD p 0 + 1)
def gAt (qs : List (Int × Int)) : Nat → List Int
  | 0 => List.replicate qs.length 0
  | n + 1 => bump (gAt qs n) (nxt qs (gAt qs n) n)
def sAt (qs : List (Int × Int)) (n : Nat) : Nat := nxt qs (gAt qs n) n
theorem gAt_succ (qs : List (Int × Int)) (n : Nat) : gAt qs (n + 1) = bump (gAt qs n) (sAt qs n) := rfl
theorem gAt_len (qs : List (Int × Int)) : ∀ n, (gAt qs n).length = qs.length
  | 0 => by simp [gAt]
  | n + 1 => by rw [gAt_succ]; unfold bump; rw [List.length_set, gAt_len qs n]
theorem shQ_len (es : List Int) : (shQ es).length = es.length := by unfold shQ; rw [List.length_map]
theorem gAt_gd {es : List Int} (h : EsOk es) : ∀ n : Nat, Gd es n (gAt (shQ es) n)
  | 0 => by
    show Gd es 0 (List.replicate (shQ es).length 0)
    rw [shQ_len]; exact gd_start h
  | n + 1 => by
    obtain ⟨b, p, g, h1, h2, h3, h4⟩ := gd_step h (gAt_gd h n)
    have hn : nxt (shQ es) (gAt (shQ es) n) n = p := by
      unfold nxt; rw [h1]; show b.2.toNat = p; omega
    rw [gAt_succ]
    unfold sAt bump
    rw [hn, List.getD_eq_getElem?_getD, h3]
    have e : ((n + 1 : Nat) : Int) = (n : Int) + 1 := by omega
    rw [e]
    exact h4
/-- the n-th seat, as it is found -/
theorem sAt_best {es : List Int} (h : EsOk es) (n : Nat) : ∃ (b : Int × Int) (g : Int), bestAt (shQ es) (gAt (shQ es) n) n (shQ es).length = some b ∧ b.2 = (sAt (shQ es) n : Int) ∧ (gAt (shQ es) n)[sAt (shQ es) n]? = some g ∧ gAt (shQ es) (n + 1) = (gAt (shQ es) n).set (sAt (shQ es) n) (g + 1) := by
  obtain ⟨b, p, g, h1, h2, h3, h4⟩ := gd_step h (gAt_gd h n)
  have hn : sAt (shQ es) n = p := by
    unfold sAt nxt; rw [h1]; show b.2.toNat = p; omega
  refine ⟨b, g, h1, by rw [hn]; exact h2, by rw [hn]; exact h3, ?_⟩
  rw [gAt_succ]
  unfold bump
  rw [hn, List.getD_eq_getElem?_getD, h3]
  rfl
/-! ### a whole period -/
theorem lcm_dvd_from : ∀ (qs : List (Int × Int)) (a : Nat), a ∣ qs.foldl (fun f q => Nat.lcm f q.2.natAbs) a ∧ ∀ q ∈ qs, q.2.natAbs ∣ qs.foldl (fun f q => Nat.lcm f q.2.natAbs) a
  | [], a => ⟨Nat.dvd_refl _, fun q h => by cases h⟩
  | q :: qs, a => by
    obtain ⟨h1, h2⟩ := lcm_dvd_from qs (Nat.lcm a q.2.natAbs)
    refine ⟨Nat.dvd_trans (Nat.dvd_lcm_left _ _) h1, fun x hx => ?_⟩
    rcases List.mem_cons.mp hx with rfl | hx
    · exact Nat.dvd_trans (Nat.dvd_lcm_right _ _) h1
    · exact h2 x hx
theorem lcmQ_dvd {qs : List (Int × Int)} {q : Int × Int} (h : q ∈ qs) : q.2.natAbs ∣ lcmQ qs := (lcm_dvd_from qs 1).2 q h
/-- m gives just its share of W seats to each place -/
def Exact (qs : List (Int × Int)) (m : List Int) (W : Int) : Prop := m.length = qs.length ∧ ∀ (i : Nat) (q : Int × Int) (g : Int), qs[i]? = some q → m[i]? = some g → g * q.2 = q.1 * W
theorem exact_whole {es : List Int} (h : EsOk es) : Exact (shQ es) (gAt (shQ es) (lcmQ (shQ es))) (lcmQ (shQ es)) := ⟨gAt_len _ _, fun i q g hq hg => by
  obtain ⟨lo, _, g0, up⟩ := gd_bounds h (gAt_gd h _) hq hg
  have d0 := (h.sh.2.2 q (List.mem_of_getElem? hq)).1.1
  obtain ⟨m, hm⟩ := lcmQ_dvd (List.mem_of_getElem? hq)
  have hW : (lcmQ (shQ es) : Int) = q.2 * (m : Int) := by
    rw [hm, Int.natCast_mul]; congr 1; omega
  rw [hW] at lo up ⊢
  have e : q.1 * (q.2 * (m : Int)) = q.1 * m * q.2 := by ac_rfl
  rw [e] at lo up ⊢
  rw [Int.mul_ediv_cancel _ (by omega)] at lo
  have := Int.lt_of_mul_lt_mul_right up (Int.le_of_lt d0)
  have : g = q.1 * m := by omega
  rw [this]⟩
theorem may_shift {q : Int × Int} {m g W c : Int} (h : m * q.2 = q.1 * W) : mayF q (m + g) (W + c) = mayF q g c := by
  unfold mayF
  have e1 : (m + g) * q.2 = q.1 * W + g * q.2 := by rw [Int.add_mul, h]
  have e2 : q.1 * (W + c + 1) = q.1 * W + q.1 * (c + 1) := by rw [← Int.mul_add]; congr 1; omega
  rw [e1, e2]
  by_cases z : g * q.2 < q.1 * (c + 1)
  · rw [decide_eq_true z, decide_eq_true (by omega)]
  · rw [decide_eq_false z, decide_eq_false (by omega)]
theorem due_shift {q : Int × Int} {m g W : Int} (hn : 0 < q.1) (h : m * q.2 = q.1 * W) : dueF q (m + g) = dueF q g + W := by
  unfold dueF
  have e : -(m + g + 1) * q.2 = -(g + 1) * q.2 + (-W) * q.1 := by
    rw [Int.neg_mul, Int.neg_mul, Int.neg_mul, Int.mul_comm W, ← h]
    have : (m + g + 1) * q.2 = m * q.2 + (g + 1) * q.2 := by rw [← Int.add_mul]; congr 1; omega
    rw [this]; omega
  rw [e, Int.add_mul_ediv_right _ _ (by omega)]
  omega
theorem zw_at {m gs : List Int} {i : Nat} {a b : Int} (h1 : m[i]? = some a) (h2 : gs[i]? = some b) : (List.zipWith (· + ·) m gs)[i]? = some (a + b) := by
  rw [List.getElem?_zipWith, h1, h2]
theorem best_shift {qs : List (Int × Int)} {m gs : List Int} {W c : Int} (E : Exact qs m W) (hn : ∀ q ∈ qs, 0 < q.1) (hl : gs.length = qs.length) : ∀ k, k ≤ qs.length → bestAt qs (List.zipWith (· + ·) m gs) (W + c) k = (bestAt qs gs c k).map fun b => (b.1 + W, b.2)
  | 0, _ => rfl
  | k + 1, hk => by
    have ih := best_shift (c := c) E hn hl k (by omega)
    have hq : qs[k]? = some qs[k] := List.getElem?_eq_getElem (by omega)
    have hg : gs[k]? = some (gs[k]'(by omega)) := List.getElem?_eq_getElem (by omega)
    have hm : m[k]? = some (m[k]'(by have := E.1; omega)) := List.getElem?_eq_getElem (by have := E.1; omega)
    have ex := E.2 k _ _ hq hm
    rw [bestAt_succ hq (zw_at hm hg), bestAt_succ hq hg, ih]
    generalize qs[k] = q at *
    generalize gs[k]'(by omega) = g at *
    generalize m[k]'(by have := E.1; omega) = a at *
    unfold bestStep
    rw [may_shift ex, due_shift (hn q (List.mem_of_getElem? hq)) ex]
    have eb : better (dueF q g + W) ((bestAt qs gs c k).map fun b => (b.1 + W, b.2)) = better (dueF q g) (bestAt qs gs c k) := by
      cases bestAt qs gs c k with
      | none => rfl
      | some b =>
        show decide (dueF q g + W < b.1 + W) = decide (dueF q g < b.1)
        by_cases z : dueF q g < b.1
        · rw [decide_eq_true z, decide_eq_true (by omega)]
        · rw [decide_eq_false z, decide_eq_false (by omega)]
    rw [eb]
    split <;> rfl
theorem nxt_shift {qs : List (Int × Int)} {m gs : List Int} {W c : Int} (E : Exact qs m W) (hn : ∀ q ∈ qs, 0 < q.1) (hl : gs.length = qs.length) : nxt qs (List.zipWith (· + ·) m gs) (W + c) = nxt qs gs c := by
  unfold nxt
  rw [best_shift E hn hl _ (Nat.le_refl _)]
  cases bestAt qs gs c qs.length <;> rfl
theorem zw_set {m gs : List Int} {p : Nat} (h : m.length = gs.length) : List.zipWith (· + ·) m (bump gs p) = bump (List.zipWith (· + ·) m gs) p := by
  unfold bump
  refine List.ext_getElem? fun i => ?_
  rw [List.getElem?_zipWith]
  by_cases hi : i < gs.length
  · have hm : m[i]? = some (m[i]'(by omega)) := List.getElem?_eq_getElem (by omega)
    have hg : gs[i]? = some gs[i] := List.getElem?_eq_getElem hi
    by_cases hp : p = i
    · subst hp
      rw [List.getElem?_set_self hi, List.getElem?_set_self (by rw [List.length_zipWith]; omega), hm, List.getD_eq_getElem?_getD, List.getD_eq_getElem?_getD, zw_at hm hg, hg]
      show some (_ + (_ + 1)) = some (_ + _ + 1)
      congr 1
      show m[p] + (gs[p] + 1) = m[p] + gs[p] + 1
      omega
    · rw [List.getElem?_set_ne hp, List.getElem?_set_ne hp, List.getElem?_zipWith]
  · have e1 : ((List.zipWith (· + ·) m gs).set p ((List.zipWith (· + ·) m gs).getD p 0 + 1))[i]? = none := List.getElem?_eq_none (by rw [List.length_set, List.length_zipWith]; omega)
    have e2 : m[i]? = none := List.getElem?_eq_none (by omega)
    rw [e1, e2]
theorem gAt_shift {es : List Int} (h : EsOk es) : ∀ n : Nat, gAt (shQ es) (lcmQ (shQ es) + n) = List.zipWith (· + ·) (gAt (shQ es) (lcmQ (shQ es))) (gAt (shQ es) n)
  | 0 => by
    refine List.ext_getElem? fun i => ?_
    rw [List.getElem?_zipWith, Nat.add_zero]
    have e0 : gAt (shQ es) 0 = List.replicate (shQ es).length 0 := rfl
    rw [e0]
    rw [List.getElem?_replicate]
    by_cases hi : i < (shQ es).length
    · rw [if_pos hi]
      cases (gAt (shQ es) (lcmQ (shQ es)))[i]? with
      | none => rfl
      | some a => show some a = some (a + 0); rw [Int.add_zero]
    · rw [if_neg hi]
      have e1 : (gAt (shQ es) (lcmQ (shQ es)))[i]? = none := List.getElem?_eq_none (by rw [gAt_len]; omega)
      rw [e1]
  | n + 1 => by
    have ih := gAt_shift h n
    have e : lcmQ (shQ es) + (n + 1) = lcmQ (shQ es) + n + 1 := rfl
    rw [e, gAt_succ, ih, gAt_succ]
    rw [zw_set (by rw [gAt_len, gAt_len])]
    congr 1
    unfold sAt
    rw [ih]
    have e2 : ((lcmQ (shQ es) + n : Nat) : Int) = (lcmQ (shQ es) : Int) + (n : Int) := by omega
    rw [e2]
    exact nxt_shift (exact_whole h) (fun q hq => (h.sh.2.2 q hq).2) (gAt_len _ _)
theorem sAt_shift {es : List Int} (h : EsOk es) (n : Nat) : sAt (shQ es) (lcmQ (shQ es) + n) = sAt (shQ es) n := by
  unfold sAt
  rw [gAt_shift h n]
  have e2 : ((lcmQ (shQ es) + n : Nat) : Int) = (lcmQ (shQ es) : Int) + (n : Int) := by omega
  rw [e2]
  exact nxt_shift (exact_whole h) (fun q hq => (h.sh.2.2 q hq).2) (gAt_len _ _)
/-! ### what is not parts -/
def oddL (qs : List (Int × Int)) : List D := [.none, .tuple [], .list (qs.map dq), .tuple (qs.map dq ++ [dq (1, 1)]), .tuple [dq (1, 2), dq (1, 3)], .tuple [dq (1, 1), dq (0, 1)], .tuple [dq (3, 2), dq (-1, 2)], .tuple [dq (2, 2)], .tuple (List.replicate 6 (dq (1, 6))), .tuple [.int 1]]
theorem ask_list {l : List D} (h : ∀ x ∈ l, ∃ q : Int × Int, x = dq q ∧ Bt 64 q.1 ∧ Bt 64 q.2) : Ask (.tuple l) := fun l' e x hx => by
  cases e
  obtain ⟨q, rfl, b1, b2⟩ := h x hx
  exact ⟨fun l' e' => by cases e'; simp, fun n m e' => by cases e'; exact ⟨b1, b2⟩⟩
theorem odd_not {es : List Int} (h : EsOk es) : ∀ x ∈ oddL (shQ es), K89.isP x = false ∧ Ask x := by
  have b : ∀ {x : Int}, -100 < x → x < 100 → Bt 64 x := fun h1 h2 => bt_of (by omega) (by omega)
  intro x hx
  unfold oddL at hx
  simp only [List.mem_cons, List.not_mem_nil, or_false] at hx
  rcases hx with rfl | rfl | rfl | rfl | rfl | rfl | rfl | rfl | rfl | rfl
  · exact ⟨rfl, fun l e => by cases e⟩
  · exact ⟨by decide, fun l e x hx => by cases e; cases hx⟩
  · exact ⟨rfl, fun l e => by cases e⟩
  · refine ⟨?_, ask_list fun x hx => ?_⟩
    · show ((decide (1 ≤ (((shQ es).map dq ++ [dq (1, 1)]).length : Int)) && decide ((((shQ es).map dq ++ [dq (1, 1)]).length : Int) ≤ 5)) && (((shQ es).map dq ++ [dq (1, 1)]).all isSh && PyData.eqv (dq (totQ (((shQ es).map dq ++ [dq (1, 1)]).map toQ))) (dq (1, 1)))) = false
      have e : ((shQ es).map dq ++ [dq (1, 1)]).map toQ = shQ es ++ [(1, 1)] := by rw [List.map_append, map_toQ]; rfl
      have t : totQ (shQ es ++ [(1, 1)]) = (2, 1) := by
        unfold totQ
        rw [List.foldl_append]
        have := tot_sh h.sum.1
        unfold totQ at this
        rw [this]
        decide
      rw [e, t]
      have : PyData.eqv (dq (2, 1)) (dq (1, 1)) = false := by decide
      rw [this, Bool.and_false, Bool.and_false]
    · rcases List.mem_append.mp hx with hx | hx
      · obtain ⟨q, hq, rfl⟩ := List.mem_map.mp hx
        obtain ⟨_, b1, b2⟩ := (h.sh.2.2 q hq).1
        exact ⟨q, rfl, b1, b2⟩
      · rw [List.mem_singleton.mp hx]
        exact ⟨(1, 1), rfl, b (by decide) (by decide), b (by decide) (by decide)⟩
  · refine ⟨by decide, ask_list fun x hx => ?_⟩
    simp only [List.mem_cons, List.not_mem_nil, or_false] at hx
    rcases hx with rfl | rfl <;> exact ⟨(_, _), rfl, b (by decide) (by decide), b (by decide) (by decide)⟩
  · refine ⟨by decide, ask_list fun x hx => ?_⟩
    simp only [List.mem_cons, List.not_mem_nil, or_false] at hx
    rcases hx with rfl | rfl <;> exact ⟨(_, _), rfl, b (by decide) (by decide), b (by decide) (by decide)⟩
  · refine ⟨by decide, ask_list fun x hx => ?_⟩
    simp only [List.mem_cons, List.not_mem_nil, or_false] at hx
    rcases hx with rfl | rfl <;> exact ⟨(_, _), rfl, b (by decide) (by decide), b (by decide) (by decide)⟩
  · refine ⟨by decide, ask_list fun x hx => ?_⟩
    rw [List.mem_singleton.mp hx]
    exact ⟨(_, _), rfl, b (by decide) (by decide), b (by decide) (by decide)⟩
  · refine ⟨by decide, ask_list fun x hx => ?_⟩
    rw [(List.mem_replicate.mp hx).2]
    exact ⟨(_, _), rfl, b (by decide) (by decide), b (by decide) (by decide)⟩
  · refine ⟨by decide, fun l e x hx => ?_⟩
    cases e
    rw [List.mem_singleton.mp hx]
    exact ⟨(fun _ z => by cases z), fun _ _ z => by cases z⟩
end K89

set_option maxHeartbeats 4000000
namespace K89
open PySem PySem.Spec PyProof.Rows L2 J Evl
variable {P : Program} {w : World} {K : PySem.W.Frag} {mg : Str → Option Value} {base : Heap}
/-! ### quotas -/
def okF (q : Int × Int) (g c : Int) : Bool := decide (q.1 * c / q.2 ≤ g) && decide (g ≤ 0 - (0 - q.1 * c) / q.2)
theorem okF_prog (q : Int × Int) (g c : Int) : (decide (c * q.1 / q.2 ≤ g) && decide (g ≤ -(-c * q.1 / q.2))) = okF q g c := by
  unfold okF
  have e : -c * q.1 = 0 - q.1 * c := by rw [Int.neg_mul, Int.mul_comm c]; omega
  rw [e, Int.mul_comm c]
  have e2 : -((0 - q.1 * c) / q.2) = 0 - (0 - q.1 * c) / q.2 := by omega
  rw [e2]
def okZ (qs : List (Int × Int)) (gs : List Int) (c : Int) (i : Nat) : Bool := match qs[i]?, gs[i]? with
  | some q, some g => okF q g c
  | _, _ => true
/-- the first n places are within -/
def withinN (qs : List (Int × Int)) (gs : List Int) (c : Int) : Nat → Bool
  | 0 => true
  | n + 1 => withinN qs gs c n && okZ qs gs c n
def withinB (qs : List (Int × Int)) (gs : List Int) (c : Int) : Bool := withinN qs gs c qs.length
theorem withinN_mono {qs : List (Int × Int)} {gs : List Int} {c : Int} {n m : Nat} (h : n ≤ m) (k : withinN qs gs c n = false) : withinN qs gs c m = false := by
  induction m with
  | zero => have : n = 0 := by omega
            subst this; exact k
  | succ m ih =>
    by_cases e : n = m + 1
    · rw [← e]; exact k
    · show (_ && _) = false
      rw [ih (by omega)]; rfl
theorem bt60 {x : Int} (h0 : 0 ≤ x) (h : x < 2 ^ 60) : Bt 64 x := bt_of (by omega) (by omega)
theorem fd_seats_below (T : Tx K mg) : Fd CX0 P w K mg base 1 "seats_below" ["share", "count"] (spD K 2 fun ds r => ∃ (q : Int × Int) (c : Int), ds = [dq q, .int c] ∧ 0 < q.2 ∧ Bt 64 q.1 ∧ Bt 64 q.2 ∧ Bt 64 c ∧ r = .int (c * q.1 / q.2)) := by
  obtain ⟨fd, F, hm⟩ := T.f_seats_below
  refine fd_mk F hm (ok_D F sc_seats_below rfl fun cdv A outer s H E M vs ds d D' hr hl hR S k _ => ?_) (fun _ _ _ _ _ _ us hl => match us, hl with | [_, _], _ => rfl)
  obtain ⟨q, c, rfl, h0, b1, b2, b3, rfl⟩ := hR
  exact sy_ret S (jd_div (jd_mul (S.at 1) (jd_ixT (n := 0) (S.at 0) jd_int rfl rfl) (wide_mul b3 b1 (by decide) (by decide) (by decide))) (jd_ixT (n := 1) (S.at 0) jd_int rfl rfl) (wide_div h0 b2 (by decide) (by decide))) fun v H' x _ p => k v H' x p
theorem fd_seats_above (T : Tx K mg) : Fd CX0 P w K mg base 1 "seats_above" ["share", "count"] (spD K 2 fun ds r => ∃ (q : Int × Int) (c : Int), ds = [dq q, .int c] ∧ 0 < q.2 ∧ Bt 64 q.1 ∧ Bt 64 q.2 ∧ Bt 64 c ∧ r = .int (-(-c * q.1 / q.2))) := by
  obtain ⟨fd, F, hm⟩ := T.f_seats_above
  refine fd_mk F hm (ok_D F sc_seats_above rfl fun cdv A outer s H E M vs ds d D' hr hl hR S k _ => ?_) (fun _ _ _ _ _ _ us hl => match us, hl with | [_, _], _ => rfl)
  obtain ⟨q, c, rfl, h0, b1, b2, b3, rfl⟩ := hR
  exact sy_ret S (jd_neg (jd_div (jd_mul (jd_neg (S.at 1)) (jd_ixT (n := 0) (S.at 0) jd_int rfl rfl) (wide_mul (a := 64) (by rw [Int.natAbs_neg]; exact b3) b1 (by decide) (by decide) (by decide))) (jd_ixT (n := 1) (S.at 0) jd_int rfl rfl) (wide_div h0 b2 (by decide) (by decide)))) fun v H' x _ p => k v H' x p
theorem okZ_at {qs : List (Int × Int)} {gs : List Int} {c : Int} {i : Nat} {q : Int × Int} {g : Int} (h1 : qs[i]? = some q) (h2 : gs[i]? = some g) : okZ qs gs c i = okF q g c := by
  unfold okZ; rw [h1, h2]
theorem fd_within (T : Tx K mg) : Fd CX0 P w K mg base 2 "within" ["shares", "given", "count"] (spD K 3 fun ds r => ∃ (qs : List (Int × Int)) (gs : List Int) (c : Int), ds = [qD qs, .list (gs.map PyData.int), .int c] ∧ Sh qs ∧ gs.length = qs.length ∧ 0 ≤ c ∧ c < 2 ^ 60 ∧ r = .bool (withinB qs gs c)) := by
  have W1 := fd_seats_below (P := P) (w := w) (base := base) T
  have W2 := fd_seats_above (P := P) (w := w) (base := base) T
  obtain ⟨fd, F, hm⟩ := T.f_within
  have nd := sc_within.nd
  refine fd_mk F hm (ok_D F sc_within rfl fun cdv A outer s H E M vs ds d D' hr hl hR S k _ => ?_) (fun _ _ _ _ _ _ us hl => match us, hl with | [_, _, _], _ => rfl)
  obtain ⟨qs, gs, c, rfl, ⟨l1, l5, hq⟩, hlen, c0, c6, rfl⟩ := hR
  have bc := bt60 c0 c6
  have zl : (zipD (qs.map dq) (gs.map PyData.int)).length = qs.length := by rw [zipD_len, List.length_map, List.length_map]; omega
  refine sy_for S (jw_zipB (b1 := true) (b2 := false) T.n_zip (S.at 0) (S.at 1)) (fun d ρ => match d with | .tuple [q, g] => (ρ.set 3 (some (.dat q))).set 4 (some (.dat g)) | _ => ρ) (js := [3, 4]) (fun d ρ' hd => ?_)
    (fun i ρ' μ' => withinN qs gs c i = true ∧ μ' = [] ∧ ∃ o3 o4, ρ' = [some (.dat (qD qs)), some (.dat (.list (gs.map PyData.int))), some (.dat (.int c)), o3, o4]) ⟨rfl, rfl, _, _, rfl⟩ ?_ ?_ PassesOwn.never rfl
  · obtain ⟨i, hi⟩ := List.mem_iff_getElem?.mp hd
    obtain ⟨a, q, h1, h2, rfl⟩ := zipD_get hi
    exact jg_tup rfl (jgs_cons (jg_name 3 nd) (jgs_cons (jg_name 4 nd) jgs_nil))
  · rintro i d ρ' μ' σ' H' B' hd ⟨hw, rfl, o3, o4, rfl⟩ hB S2
    obtain ⟨a, z, h1, h2, rfl⟩ := zipD_get hd
    rw [List.getElem?_map] at h1 h2
    obtain ⟨q, hq1, rfl⟩ := Option.map_eq_some_iff.mp h1
    obtain ⟨g, hg1, rfl⟩ := Option.map_eq_some_iff.mp h2
    obtain ⟨⟨q0, qb1, qb2⟩, qn⟩ := hq q (List.mem_of_getElem? hq1)
    have hi : i < qs.length := (List.getElem?_eq_some_iff.mp hq1).1
    refine sy_when (b := !okF q g c) S2 (Jt.is (jt_not (jt_chain op_le op_le (jd_call W1 (hr.mono (by decide)) (ja_cons (S2.at 3) (ja_cons (S2.at 2) ja_nil)) rfl ⟨q, c, rfl, q0, qb1, qb2, bc, rfl⟩) (S2.at 4)
      (jd_call W2 (hr.mono (by decide)) (ja_cons (S2.at 3) (ja_cons (S2.at 2) ja_nil)) rfl ⟨q, c, rfl, q0, qb1, qb2, bc, rfl⟩) (by with_unfolding_all rfl))) (by rw [okF_prog])) (fun h H3 S3 => ?_) (fun h H3 S3 => ?_)
    · refine sy_ret S3 (d := .bool (withinB qs gs c)) (Jd.is jd_bl ?_) fun v H4 x _ p => k v H4 (hB.trans x) p
      have : withinN qs gs c (i + 1) = false := by
        show (_ && okZ qs gs c i) = false
        rw [okZ_at hq1 hg1]
        cases e : okF q g c with
        | true => rw [e] at h; cases h
        | false => rw [Bool.and_false]
      unfold withinB
      rw [withinN_mono (by omega : i + 1 ≤ qs.length) this]
    · refine tB_nil ⟨_, _, ⟨?_, rfl, _, _, rfl⟩, S3⟩
      show (_ && okZ qs gs c i) = true
      rw [okZ_at hq1 hg1, hw]
      cases e : okF q g c with
      | true => rfl
      | false => rw [e] at h; cases h
  · rintro ρ' μ' σ' H' ⟨hw, rfl, o3, o4, rfl⟩ S2
    rw [zl] at hw
    refine sy_ret S2 (d := .bool (withinB qs gs c)) (Jd.is jd_bl (by unfold withinB; rw [hw])) fun v H4 x _ p => k v H4 x p
/-! ### orders of seats -/
def plOk (n : Nat) : D → Bool
  | .int p => decide (0 ≤ p) && decide (p < (n : Int))
  | _ => false
def toN : D → Nat
  | .int p => p.toNat
  | _ => 0
def gsT (n : Nat) (l : List D) : Nat → List Int
  | 0 => List.replicate n 0
  | i + 1 => bump (gsT n l i) (match l[i]? with | some d => toN d | none => 0)
theorem gsT_len (n : Nat) (l : List D) : ∀ i, (gsT n l i).length = n
  | 0 => by simp [gsT]
  | i + 1 => by show (bump _ _).length = n; unfold bump; rw [List.length_set, gsT_len n l i]
/-- the first i beginnings are within -/
def begN (qs : List (Int × Int)) (l : List D) : Nat → Bool
  | 0 => true
  | i + 1 => begN qs l i && withinB qs (gsT qs.length l (i + 1)) ((i + 1 : Nat) : Int)
theorem begN_mono {qs : List (Int × Int)} {l : List D} {n m : Nat} (h : n ≤ m) (k : begN qs l n = false) : begN qs l m = false := by
  induction m with
  | zero => have : n = 0 := by omega
            subst this; exact k
  | succ m ih =>
    by_cases e : n = m + 1
    · rw [← e]; exact k
    · show (_ && _) = false
      rw [ih (by omega)]; rfl
def quotaB (qs : List (Int × Int)) : D → Bool
  | .tuple l => l.all (plOk qs.length) && begN qs l l.length
  | _ => false
def VOk (v : D) : Prop := ∀ l, v = .tuple l → l.length ≤ 1000
theorem gsT_b {n : Nat} {l : List D} : ∀ i, ∀ g ∈ gsT n l i, 0 ≤ g ∧ g ≤ (i : Int)
  | 0, g, h => by
    have := (List.mem_replicate.mp h).2
    omega
  | i + 1, g, h => by
    have ih := gsT_b (n := n) (l := l) i
    have h : g ∈ (gsT n l i).set _ _ := h
    rcases List.mem_or_eq_of_mem_set h with h | h
    · have := ih g h; omega
    · rw [h, List.getD_eq_getElem?_getD]
      generalize (match l[i]? with | some d => toN d | none => 0) = p
      cases e : (gsT n l i)[p]? with
      | none => simp; omega
      | some x => have := ih x (List.mem_of_getElem? e); simp; omega
theorem iS_bump {gs : List Int} {p : Nat} {x : Int} (h : gs[p]? = some x) : (iS gs).set p (.dat (.int (x + 1))) = iS (bump gs p) := by
  unfold iS bump
  rw [List.getD_eq_getElem?_getD, h, List.map_set, List.map_set]
  rfl
theorem iS_at {gs : List Int} {p : Nat} {x : Int} (h : gs[p]? = some x) : (iS gs)[p]? = some (.dat (.int x)) := by
  unfold iS; rw [List.getElem?_map, List.getElem?_map, h]; rfl
theorem plOk_int {n : Nat} {d : D} (h : plOk n d = true) : ∃ p : Nat, d = .int (p : Int) ∧ p < n ∧ toN d = p := by
  cases d with
  | int p =>
    have : 0 ≤ p ∧ p < (n : Int) := by simpa [plOk] using h
    exact ⟨p.toNat, by congr 1; omega, by omega, rfl⟩
  | _ => cases h
theorem plOk_noL {n : Nat} {d : D} (h : plOk n d = true) : noL d = true := by
  obtain ⟨p, rfl, _⟩ := plOk_int h; rfl
theorem noLs_of {l : List D} (h : ∀ d ∈ l, noL d = true) : noLs l = true := by
  induction l with
  | nil => rfl
  | cons d l ih => simp [noLs, h d (by simp), ih fun x hx => h x (by simp [hx])]
theorem noL_qD (qs : List (Int × Int)) : noL (qD qs) = true := by
  show noLs (qs.map dq) = true
  exact noLs_of fun d hd => by
    obtain ⟨q, _, rfl⟩ := List.mem_map.mp hd
    rfl
end K89

set_option maxHeartbeats 4000000
namespace K89
open PySem PySem.Spec PyProof.Rows L2 J Evl
variable {P : Program} {w : World} {K : PySem.W.Frag} {mg : Str → Option Value} {base : Heap}
theorem rep0 (n : Nat) : (List.replicate n (PyData.int 0)).map Sv.dat = iS (List.replicate n (0 : Int)) := by
  unfold iS; rw [List.map_replicate, List.map_replicate, List.map_replicate]
theorem ok_is_quota (T : Tx K mg) : ∃ fd, FnOk P w K mg base (CX P w) 7 (He.ga K "is_quota") fd ["shares", "value"] (spX K 2 (fun ds d => ∃ qs v, ds = [qD qs, v] ∧ Ask (qD qs) ∧ isP (qD qs) = true ∧ Sh qs ∧ VOk v ∧ d = .bool (quotaB qs v)) fun ds c => ∃ a v, ds = [a, v] ∧ Ask a ∧ isP a = false ∧ c = .ref (He.ga K "BadShares")) ∧ FnP K "is_quota" "is_quota" s_is_quota (He.ga K "is_quota") fd ∧ mg "is_quota" = some (.ref (He.ga K "is_quota")) := by
  have W := fd_need_parts (P := P) (w := w) (base := base) T
  have W1 := fd_is_whole (P := P) (w := w) (base := base) T
  have W2 := fd_within (P := P) (w := w) (base := base) T
  obtain ⟨fd, F, hm⟩ := T.f_is_quota
  have nd := sc_is_quota.nd
  refine ⟨fd, ok_X F sc_is_quota rfl fun cdv A outer s H E M vs ds D' hr hl S hR => ?_, F, hm⟩
  rcases hR with ⟨d, ⟨qs, v, rfl, hz, hp, hS, hv, rfl⟩, k, _⟩ | ⟨c, ⟨a, v, rfl, hz, hp, rfl⟩, kE⟩
  · obtain ⟨l1, l5, hq⟩ := id hS
    refine sy_expr S (jd_callX W (hr.mono (by decide)) (ja_cons (S.at 0) ja_nil) rfl ⟨_, rfl, hz, hp, rfl⟩) fun H1 S1 => ?_
    by_cases ht : dIsT v = true
    · obtain ⟨l, rfl⟩ : ∃ l, v = .tuple l := by cases v <;> first | (cases ht; done) | exact ⟨_, rfl⟩
      have hv := hv l rfl
      refine sy_when (b := !true || !(l.all (plOk qs.length))) S1 (jt_or (jt_not (jt_val (jd_isi T.n_isinstance T.n_tuple boot_tuple (S1.at 1) (kit_tuple (.tuple l))))) (fun _ => jt_not (jt_val (Jd.is (jd_all (bs := l.map (plOk qs.length)) rfl T.n_all ?_) (by rw [all_map]))))) (fun h H2 S2 => ?_) (fun h H2 S2 => ?_)
      · refine (sy_lc S1 (jw_tup (S1.at 1)) (l.map fun d => some (.bool (plOk qs.length d))) (by simp) (by omega) (fun d ρ => ρ.set 4 (some (.dat d))) (js := [4]) (own := [("place", 4)]) (by simp) ?_ ?_ ?_ (blkOk_by (by rfl)) rfl nd).is ?_
        · rintro _ d ⟨s, H, C, cl, fp, rfl⟩ _
          exact jg_name 4 nd
        · rintro i d o _ B' M' σ' H' h1 h2 ⟨s, H, C, cl, fp, rfl⟩ S'
          rw [List.getElem?_map, h1] at h2
          cases h2
          exact jts_nil
        · rintro i d x _ B' M' σ' H' h1 h2 ⟨s, H, C, cl, fp, rfl⟩ S'
          rw [List.getElem?_map, h1] at h2
          cases h2
          refine jd_and (k := isW d) (jd_call W1 (hr.mono (by decide)) (ja_cons (S'.at 4) ja_nil) rfl ⟨d, rfl, rfl⟩) (fun q => ?_) fun q => ?_
          · cases d <;> first | rfl | cases q
          · obtain ⟨p, rfl⟩ : ∃ p, d = .int p := by cases d <;> first | (cases q; done) | exact ⟨_, rfl⟩
            refine Jd.is (jd_chain op_le op_lt jd_int (S'.at 4) (jd_len T.n_len (S'.at 0) (.inl rfl)) (by with_unfolding_all rfl)) ?_
            show PyData.bool (decide (0 ≤ p) && decide (p < (((qs.map dq).length : Nat) : Int))) = PyData.bool (decide (0 ≤ p) && decide (p < (qs.length : Int)))
            rw [List.length_map]
        · rw [fm_mapS, List.map_map]; rfl
      · refine sy_ret S2 (d := .bool (quotaB qs (.tuple l))) (Jd.is jd_bl ?_) fun u H' x _ p => k u H' x p
        have h : l.all (plOk qs.length) = false := by rw [Bool.not_true, Bool.false_or, Bool.not_eq_true'] at h; exact h
        show _ = PyData.bool (_ && _)
        rw [h]; rfl
      · have h : l.all (plOk qs.length) = true := by rw [Bool.not_true, Bool.false_or, Bool.not_eq_false'] at h; exact h
        have hpl : ∀ d ∈ l, plOk qs.length d = true := fun d hd => List.all_eq_true.mp h d hd
        refine sy_setE 2 (S2.evN (jn_rep (ja_cons jd_int ja_nil) (jd_len T.n_len (S2.at 0) (.inl rfl)) (by omega) (by simp; omega)) fun g H3 S3 => ?_) nd
        have S3 := S3.set 2 (s := .val (.ref g)) (v := .ref g) rfl
        rw [rep0, List.length_map, Int.toNat_natCast] at S3
        have S3 : Sy K H M [some (.dat (qD qs)), some (.dat (.tuple l)), some (.val (.ref g)), none, none] [(g, .lst (iS (gsT qs.length l 0)))] _ H3 := S3
        have zl : (zipD (rgD 0 l.length) l).length = l.length := by rw [zipD_len, rgD_len]; omega
        refine sy_for S3 (jw_enumT T.n_enumerate (S3.at 1)) (fun d ρ => match d with | .tuple [i, q] => (ρ.set 3 (some (.dat i))).set 4 (some (.dat q)) | _ => ρ) (js := [3, 4]) (fun d ρ' hd => ?_)
          (fun i ρ' μ' => begN qs l i = true ∧ μ' = [(g, .lst (iS (gsT qs.length l i)))] ∧ ∃ o3 o4, ρ' = [some (.dat (qD qs)), some (.dat (.tuple l)), some (.val (.ref g)), o3, o4]) ⟨rfl, rfl, _, _, rfl⟩ ?_ ?_ bodyE_pa rfl
        · obtain ⟨i, hi⟩ := List.mem_iff_getElem?.mp hd
          obtain ⟨a, q, h1, h2, rfl⟩ := zipD_get hi
          exact jg_tup rfl (jgs_cons (jg_name 3 nd) (jgs_cons (jg_name 4 nd) jgs_nil))
        · rintro i d ρ' μ' σ' H' B' hd ⟨hw, rfl, o3, o4, rfl⟩ hB S4
          obtain ⟨a, z, h1, h2, rfl⟩ := zipD_get hd
          obtain ⟨hi, rfl⟩ := rgD_get h1
          rw [Int.zero_add] at S4
          obtain ⟨p, rfl, hp2, hpN⟩ := plOk_int (hpl z (List.mem_of_getElem? h2))
          have S4 : Sy K B' M [some (.dat (qD qs)), some (.dat (.tuple l)), some (.val (.ref g)), some (.dat (.int i)), some (.dat (.int p))] [(g, .lst (iS (gsT qs.length l i)))] σ' H' := S4
          have gl := gsT_len qs.length l i
          obtain ⟨x, hx⟩ : ∃ x, (gsT qs.length l i)[p]? = some x := ⟨_, List.getElem?_eq_getElem (by omega)⟩
          refine sy_augIx (m := 0) S4 (S4.atV 2) (S4.at 4) jd_int rfl rfl (iS_at hx) fun H5 S5 => ?_
          have S5 : Sy K B' M [some (.dat (qD qs)), some (.dat (.tuple l)), some (.val (.ref g)), some (.dat (.int i)), some (.dat (.int p))] [(g, .lst ((iS (gsT qs.length l i)).set p (.dat (.int (x + 1)))))] σ' H5 := S5
          have eb : bump (gsT qs.length l i) p = gsT qs.length l (i + 1) := by
            show _ = bump (gsT qs.length l i) (match l[i]? with | some d => toN d | none => 0)
            rw [h2]; rfl
          rw [iS_bump hx, eb] at S5
          have gl2 := gsT_len qs.length l (i + 1)
          have ei : ((i + 1 : Nat) : Int) = (i : Int) + 1 := by omega
          refine sy_when (b := !withinB qs (gsT qs.length l (i + 1)) ((i + 1 : Nat) : Int)) S5 (jt_not (jt_val (S5.lookL (i := 0) rfl (jd_call W2 (hr.mono (by decide)) (ja_cons ((S5.frz 2 0 rfl rfl).at 0) (ja_cons ((S5.frz 2 0 rfl rfl).at 2) (ja_cons (jd_add ((S5.frz 2 0 rfl rfl).at 3) jd_int) ja_nil))) rfl ⟨qs, gsT qs.length l (i + 1), (i : Int) + 1, rfl, hS, gl2, by omega, by omega, by rw [ei]⟩) rfl))) (fun h H6 S6 => ?_) (fun h H6 S6 => ?_)
          · refine sy_ret S6 (d := .bool (quotaB qs (.tuple l))) (Jd.is jd_bl ?_) fun u H' x _ p => k u H' (hB.trans x) p
            have : begN qs l (i + 1) = false := by
              show (_ && _) = false
              cases e : withinB qs (gsT qs.length l (i + 1)) ((i + 1 : Nat) : Int) with
              | true => rw [e] at h; cases h
              | false => rw [Bool.and_false]
            show _ = PyData.bool (_ && _)
            rw [begN_mono (by omega : i + 1 ≤ l.length) this, Bool.and_false]
          · refine tB_nil ⟨_, _, ⟨?_, rfl, _, _, rfl⟩, S6⟩
            show (_ && _) = true
            rw [hw]
            cases e : withinB qs (gsT qs.length l (i + 1)) ((i + 1 : Nat) : Int) with
            | true => rfl
            | false => rw [e] at h; cases h
        · rintro ρ' μ' σ' H' ⟨hw, rfl, o3, o4, rfl⟩ S4
          rw [zl] at hw
          refine sy_ret S4 (d := .bool (quotaB qs (.tuple l))) (Jd.is jd_bl ?_) fun u H' x _ p => k u H' x p
          show _ = PyData.bool (_ && _)
          rw [hw, h]; rfl
    · have ht : dIsT v = false := by simpa using ht
      refine sy_when (b := !(dIsT v) || true) S1 (jt_or (jt_not (jt_val (jd_isi T.n_isinstance T.n_tuple boot_tuple (S1.at 1) (kit_tuple v)))) (fun z => ?_)) (fun h H2 S2 => ?_) (fun h H2 S2 => ?_)
      · rw [ht] at z; cases z
      · refine sy_ret S2 (d := .bool (quotaB qs v)) (Jd.is jd_bl ?_) fun u H' x _ p => k u H' x p
        cases v <;> first | rfl | cases ht
      · rw [ht] at h; cases h
  · exact tB_exprX (jx_call W (hr.mono (by decide)) bodyE_tk S.all (ja_cons (S.at 0) ja_nil) rfl ⟨a, rfl, hz, hp, rfl⟩ fun H' x => kE H' (S.bs.trans x))
end K89

set_option maxHeartbeats 4000000
namespace K89
open PySem PySem.Spec PyProof.Rows L2 J Evl
variable {P : Program} {w : World} {K : PySem.W.Frag} {mg : Str → Option Value} {base : Heap}
/-! ### the seats' object behind n seats (as in k88) -/
def stS (x dx : Addr) (K : PySem.W.Frag) (qs : List (Int × Int)) (n : Nat) : Addr × Mo := (x, .ins (cS K) dx (seatsF (qD qs) (gD (gAt qs n)) n))
theorem gv_at {es : List Int} (h : EsOk es) {n : Nat} (hn : n ≤ 100000) : Gv (gAt (shQ es) n) := fun g hg => by
  obtain ⟨i, hi⟩ := List.mem_iff_getElem?.mp hg
  obtain ⟨a, b⟩ := gd_le h (gAt_gd h n) hi
  exact ⟨a, by omega⟩
theorem preN {es : List Int} (h : EsOk es) {x dx : Addr} {n : Nat} (hn : n ≤ 100000) : PreN K [.val (.ref x)] [stS x dx K (shQ es) n] := by
  obtain ⟨b, g, h1, h2, h3, h4⟩ := sAt_best h n
  exact ⟨x, dx, shQ es, gAt (shQ es) n, n, b, rfl, rfl, h.sh, gv_at h hn, gAt_len _ _, by omega, by omega, h1⟩
theorem seats_inj {sh g sh' g' : D} {c c' : Int} (e : seatsF sh g c = seatsF sh' g' c') : sh = sh' ∧ g = g' ∧ c = c' := by
  unfold seatsF at e
  simp only [List.cons.injEq, Prod.mk.injEq, Sv.dat.injEq, PyData.int.injEq, true_and, and_true] at e
  exact e
theorem map_dq_inj {qs qs' : List (Int × Int)} (e : qs.map dq = qs'.map dq) : qs = qs' :=
  List.map_inj_right (fun a b z => by
    obtain ⟨a1, a2⟩ := a
    obtain ⟨b1, b2⟩ := b
    unfold dq at z
    simp only [PyData.tuple.injEq, List.cons.injEq, PyData.int.injEq, and_true] at z
    rw [z.1, z.2]) |>.mp e
theorem map_int_inj {gs gs' : List Int} (e : gs.map PyData.int = gs'.map PyData.int) : gs = gs' := List.map_inj_right (fun _ _ z => by cases z; rfl) |>.mp e
theorem rN {es : List Int} (h : EsOk es) {x dx : Addr} {n : Nat} {s : Sv} {μ' : Mu} (r : RN K [.val (.ref x)] [stS x dx K (shQ es) n] s μ') : s = .dat (.int (sAt (shQ es) n)) ∧ μ' = [stS x dx K (shQ es) (n + 1)] := by
  obtain ⟨x2, dx2, qs, gs, c, b, p, g, e1, e2, hb, hp, hg, rfl, rfl⟩ := r
  unfold stS at e2
  simp only [List.cons.injEq, Prod.mk.injEq, Mo.ins.injEq, and_true, true_and] at e2
  obtain ⟨rfl, rfl, e3⟩ := e2
  obtain ⟨e4, e5, rfl⟩ := seats_inj e3
  have e4 : (shQ es).map dq = qs.map dq := by simpa using e4
  have e5 : (gAt (shQ es) n).map PyData.int = gs.map PyData.int := by simpa using e5
  obtain rfl := map_dq_inj e4
  obtain rfl := map_int_inj e5
  obtain ⟨b', g', h1, h2, h3, h4⟩ := sAt_best h n
  rw [hb] at h1
  cases h1
  rw [hp] at h2
  have h2 : p = sAt (shQ es) n := by omega
  subst h2
  rw [hg] at h3
  cases h3
  refine ⟨rfl, ?_⟩
  unfold stS
  rw [h4]
  have e : ((n + 1 : Nat) : Int) = (n : Int) + 1 := by omega
  rw [e]
/-- the first n seats -/
def fstS (es : List Int) (n : Nat) : List Int := (List.range n).map fun j => ((sAt (shQ es) j : Nat) : Int)
theorem fstS_succ (es : List Int) (n : Nat) : fstS es (n + 1) = fstS es n ++ [((sAt (shQ es) n : Nat) : Int)] := by
  unfold fstS; rw [List.range_succ, List.map_append]; rfl
theorem fstS_len (es : List Int) (n : Nat) : (fstS es n).length = n := by unfold fstS; simp
def mOk : D → Bool
  | .int m => decide (0 ≤ m) && decide (m ≤ 400)
  | _ => false
theorem jt_le400 : True := trivial
theorem ok_first_seats (T : Tx K mg) : ∃ fd, FnOk P w K mg base (CX P w) 9 (He.ga K "first_seats") fd ["shares", "many"] (spX K 2 (fun ds d => ∃ es n, ds = [qD (shQ es), .int ((n : Nat) : Int)] ∧ EsOk es ∧ n ≤ 400 ∧ d = .tuple ((fstS es n).map PyData.int))
    fun ds c => (∃ a v, ds = [a, v] ∧ Ask a ∧ isP a = false ∧ c = .ref (He.ga K "BadShares")) ∨ (∃ a v, ds = [a, v] ∧ Ask a ∧ isP a = true ∧ mOk v = false ∧ c = .ref (He.ga K "BadMany"))) ∧ FnP K "first_seats" "first_seats" s_first_seats (He.ga K "first_seats") fd ∧ mg "first_seats" = some (.ref (He.ga K "first_seats")) := by
  have W := fd_need_parts (P := P) (w := w) (base := base) T
  have W1 := fd_is_whole (P := P) (w := w) (base := base) T
  obtain ⟨tok, hmp⟩ := T.c_MOST_SEATS
  obtain ⟨fdI, okI, bI⟩ := ok_init (P := P) (w := w) (base := base) T
  obtain ⟨fdN, okN, bN⟩ := ok_next (P := P) (w := w) (base := base) T
  obtain ⟨fd, F, hm⟩ := T.f_first_seats
  have nd := sc_first_seats.nd
  refine ⟨fd, ok_X F sc_first_seats rfl fun cdv A outer s H E M vs ds D' hr hl S hR => ?_, F, hm⟩
  have j400 : ∀ {M σ H' p}, Jd (bodyE P w K mg base N_first_seats "first_seats" s_first_seats (He.ga K "first_seats") cdv A outer s H E) M (.Name "MOST_SEATS" p) σ H' (.int 400) := fun {M σ H' p} => jd_glob hmp (v := .int 400) ⟨tok, rfl⟩ (.int 400)
  have test : ∀ {v : D} {a : D} {σ1 : L2.St} {H1 : Hp} (S1 : Sy K H M [some (.dat a), some (.dat v), none, none, none] [] σ1 H1), True := fun _ => trivial
  rcases hR with ⟨d, ⟨es, n, rfl, hE, hn, rfl⟩, k, _⟩ | ⟨c, hF, kE⟩
  · refine sy_expr S (jd_callX W (hr.mono (by decide)) (ja_cons (S.at 0) ja_nil) rfl ⟨_, rfl, hE.ask, hE.isP, rfl⟩) fun H1 S1 => ?_
    refine sy_when (b := !true || !(decide (0 ≤ (n : Int)) && decide ((n : Int) ≤ 400))) S1 (jt_or (jt_not (jt_val (jd_call W1 (hr.mono (by decide)) (ja_cons (S1.at 1) ja_nil) rfl ⟨_, rfl, rfl⟩))) (fun _ => jt_not (jt_chain op_le op_le jd_int (S1.at 1) j400 (by with_unfolding_all rfl)))) (fun h H2 S2 => ?_) (fun _ H2 S2 => ?_)
    · rw [decide_eq_true (by omega), decide_eq_true (by omega)] at h; cases h
    · refine sy_parE 3 4 (leA (pa_cons pe_W pa_A rfl) (jm_make (C := cS K) (k := 6) S2 T.k_Seats___init__ okI bI (hr.mono (by decide)) T.g_Seats (E := E0) passE0 (jsa_cons (S2.at 0).js jsa_nil) rfl (fun x0 dx => ⟨x0, dx, _, rfl, rfl, hE.ask⟩) (fun _ _ _ _ h => h.1) (fun x dx μ' H3 hR S3 => ?_) fun x0 dx cls H' hF _ => ?_)) rfl nd (by decide) rfl
      · obtain ⟨_, x2, dx2, l, e1, e2, hp, rfl⟩ := hR
        cases e1
        simp only [List.cons.injEq, Prod.mk.injEq, Mo.ins.injEq, and_true, true_and] at e2
        obtain ⟨_, rfl⟩ := e2
        have e : PyData.tuple (List.replicate (List.map dq (shQ es)).length (.int 0)) = gD (gAt (shQ es) 0) := by
          show _ = PyData.tuple ((List.replicate (shQ es).length (0 : Int)).map PyData.int)
          rw [List.map_replicate, List.length_map]
        rw [e] at S3
        have S3 : Sy K H M [some (.dat (qD (shQ es))), some (.dat (.int n)), none, none, none] [stS x dx K (shQ es) 0] _ H3 := S3
        refine leA (pa_cons pe_W pa_nil rfl) (S3.evN (jn_lst ja_nil) fun g H4 S4 => ⟨_, _, rfl, ?_⟩)
        have S4 := (S4.set 3 (s := .val (.ref x)) (v := .ref x) rfl).set 4 (s := .val (.ref g)) (v := .ref g) rfl
        have S4 : Sy K H M [some (.dat (qD (shQ es))), some (.dat (.int n)), none, some (.val (.ref x)), some (.val (.ref g))] [(g, .lst (iS (fstS es 0))), stS x dx K (shQ es) 0] _ H4 := S4
        refine sy_for S4 (jw_rng1 T.n_range (S4.at 1) (by omega)) (fun d ρ => ρ.set 2 (some (.dat d))) (js := [2]) (fun d ρ' _ => jg_name 2 nd)
          (fun i ρ' μ' => i ≤ 400 ∧ μ' = [(g, .lst (iS (fstS es i))), stS x dx K (shQ es) i] ∧ ∃ o2, ρ' = [some (.dat (qD (shQ es))), some (.dat (.int n)), o2, some (.val (.ref x)), some (.val (.ref g))]) ⟨by decide, rfl, _, rfl⟩ ?_ ?_ bodyE_pa rfl
        · rintro i d ρ' μ' σ' H' B' hd ⟨hi, rfl, o2, rfl⟩ hB S5
          obtain ⟨him, rfl⟩ := rgD_get hd
          rw [Int.zero_add] at S5
          have S5 : Sy K B' M [some (.dat (qD (shQ es))), some (.dat (.int n)), some (.dat (.int i)), some (.val (.ref x)), some (.val (.ref g))] [(g, .lst (iS (fstS es i))), stS x dx K (shQ es) i] σ' H' := S5
          refine sy_appE (m := 0) S5 (S5.atV 4) rfl fun H6 S6 => ?_
          have S6 : Sy K B' M [some (.dat (qD (shQ es))), some (.dat (.int n)), some (.dat (.int i)), some (.val (.ref x)), some (.val (.ref g))] ([stS x dx K (shQ es) i] ++ [(g, .lst (iS (fstS es i)))]) σ' H6 := S6.perm (List.Perm.swap _ _ _)
          refine jm_meth0 (i := 0) S6 (S6.atV 3) rfl rfl T.l_Seats T.m_Seats_next okN bN (hr.mono (by decide)) pass0 (preN hE (by omega)) (fun v s' μ1 H7 hR7 S7 hv7 => ?_) (fun _ _ h => h.elim)
          obtain ⟨rfl, rfl⟩ := rN hE hR7
          refine ⟨_, _, _, _, 1, iS (fstS es i), .dat (.int (sAt (shQ es) i)), S7, hv7, rfl, by unfold iS; simp [fstS_len]; omega, fun H8 S8 => ?_⟩
          have S8 : Sy K B' M [some (.dat (qD (shQ es))), some (.dat (.int n)), some (.dat (.int i)), some (.val (.ref x)), some (.val (.ref g))] [stS x dx K (shQ es) (i + 1), (g, .lst (iS (fstS es i) ++ [.dat (.int (sAt (shQ es) i))]))] σ' H8 := S8
          have e8 : iS (fstS es i) ++ [.dat (.int (sAt (shQ es) i))] = iS (fstS es (i + 1)) := by rw [fstS_succ]; unfold iS; simp
          rw [e8] at S8
          exact tB_nil ⟨_, _, ⟨by omega, rfl, _, rfl⟩, S8.perm (List.Perm.swap _ _ _)⟩
        · rintro ρ' μ' σ' H' ⟨hi, rfl, o2, rfl⟩ S5
          rw [rgD_len, Int.toNat_natCast] at S5
          have S6 := S5.frz 4 0 rfl rfl
          exact sy_ret S6 (jd_tupOf T.n_tuple (S6.at 4)) fun u H' x _ p => k u H' x p
      · obtain ⟨x, a, e, hp, _⟩ := hF
        cases e
        rw [hE.isP] at hp; cases hp
  · rcases hF with ⟨a, v, rfl, hz, hp, rfl⟩ | ⟨a, v, rfl, hz, hp, hv, rfl⟩
    · exact tB_exprX (jx_call W (hr.mono (by decide)) bodyE_tk S.all (ja_cons (S.at 0) ja_nil) rfl ⟨a, rfl, hz, hp, rfl⟩ fun H' x => kE H' (S.bs.trans x))
    · refine sy_expr S (jd_callX W (hr.mono (by decide)) (ja_cons (S.at 0) ja_nil) rfl ⟨_, rfl, hz, hp, rfl⟩) fun H1 S1 => ?_
      have fin : ∀ H2, Sy K H M [some (.dat a), some (.dat v), none, none, none] [] (L2.start N_first_seats vs) H2 → E (.ref (He.ga K "BadMany")) none H2 := fun H2 S2 => kE H2 S2.bs
      by_cases hw : isW v = true
      · obtain ⟨m, rfl⟩ : ∃ m, v = .int m := by cases v <;> first | (cases hw; done) | exact ⟨_, rfl⟩
        have hv : (decide (0 ≤ m) && decide (m ≤ 400)) = false := hv
        refine sy_when (b := !true || !(decide (0 ≤ m) && decide (m ≤ 400))) S1 (jt_or (jt_not (jt_val (jd_call W1 (hr.mono (by decide)) (ja_cons (S1.at 1) ja_nil) rfl ⟨_, rfl, rfl⟩))) (fun _ => jt_not (jt_chain op_le op_le jd_int (S1.at 1) j400 (by with_unfolding_all rfl)))) (fun h H2 S2 => ?_) (fun h H2 S2 => ?_)
        · exact tB_raiseV T.x_BadMany T.g_BadMany bodyE_tk (fin H2 S2)
        · rw [hv] at h; cases h
      · have hw : isW v = false := by simpa using hw
        refine sy_when (b := !(isW v) || true) S1 (jt_or (jt_not (jt_val (jd_call W1 (hr.mono (by decide)) (ja_cons (S1.at 1) ja_nil) rfl ⟨_, rfl, rfl⟩))) (fun z => by rw [hw] at z; cases z)) (fun h H2 S2 => ?_) (fun h H2 S2 => ?_)
        · exact tB_raiseV T.x_BadMany T.g_BadMany bodyE_tk (fin H2 S2)
        · rw [hw] at h; cases h
end K89

set_option maxHeartbeats 4000000
namespace K89
open PySem PySem.Spec PyProof.Rows L2 J Evl
variable {P : Program} {w : World} {K : PySem.W.Frag} {mg : Str → Option Value} {base : Heap}
theorem fd_law_st_is_whole (T : Tx K mg) : Fd CX0 P w K mg base 1 "_law_st_is_whole" ["value"] (spD K 1 fun ds d => ∃ a, ds = [a] ∧ d = .bool (isW a)) := by
  obtain ⟨fd, F, hm⟩ := T.f_law_st_is_whole
  refine fd_mk F hm (ok_D F sc_law_st_is_whole rfl fun cdv A outer s H E M vs ds d D' hr hl hR S k _ => ?_) (fun _ _ _ _ _ _ us hl => match us, hl with | [_], _ => rfl)
  obtain ⟨a, rfl, rfl⟩ := hR
  have e3 : isW a = (dIsI a && !dIsB a) := by cases a <;> rfl
  rw [e3] at k
  refine sy_ret S (jd_and (k := dIsI a) (jd_isi T.n_isinstance T.n_int boot_int (S.at 0) (kit_int a)) ?_ fun h => ?_) fun v H' _ => k v H'
  · intro h; rw [h]; rfl
  · rw [h, Bool.true_and]
    exact jd_not (jd_isi T.n_isinstance T.n_bool boot_bool (S.at 0) (kit_bool a))
def badO (n : Nat) (d : D) : Option D := if plOk n d then none else some (.int 1)
theorem bad_empty (n : Nat) (l : List D) : ((l.map (badO n)).filterMap id).isEmpty = l.all (plOk n) := by
  induction l with
  | nil => rfl
  | cons d l ih =>
    rw [List.map_cons, List.all_cons]
    cases h : plOk n d with
    | true =>
      have e : badO n d = none := if_pos h
      rw [List.filterMap_cons, e]
      simpa using ih
    | false =>
      have e : badO n d = some (.int 1) := if_neg (by rw [h]; decide)
      rw [List.filterMap_cons, e]
      rfl
theorem bad_ints (n : Nat) (l : List D) : ∀ x ∈ (l.map (badO n)).filterMap id, x = .int 1 := fun x hx => by
  obtain ⟨o, ho, e⟩ := List.mem_filterMap.mp hx
  obtain ⟨d, _, rfl⟩ := List.mem_map.mp ho
  unfold badO at e
  split at e
  · cases e
  · exact (Option.some.inj e).symm
theorem fd_law_keeps (T : Tx K mg) : Fd CX0 P w K mg base 3 "_law_keeps" ["shares", "value"] (spD K 2 fun ds r => ∃ qs v, ds = [qD qs, v] ∧ Sh qs ∧ VOk v ∧ r = .bool (quotaB qs v)) := by
  have W1 := fd_law_st_is_whole (P := P) (w := w) (base := base) T
  have Wfl := fd_law_st_floor (P := P) (w := w) (base := base) T
  have Wce := fd_law_st_ceiling (P := P) (w := w) (base := base) T
  obtain ⟨fd, F, hm⟩ := T.f_law_keeps
  have nd := sc_law_keeps.nd
  refine fd_mk F hm (ok_D F sc_law_keeps rfl fun cdv A outer s H E M vs ds d D' hr hl hR S k _ => ?_) (fun _ _ _ _ _ _ us hl => match us, hl with | [_, _], _ => rfl)
  obtain ⟨qs, v, rfl, hS, hv, rfl⟩ := hR
  obtain ⟨l1, l5, hq⟩ := id hS
  have hu := hr.units
  by_cases ht : dIsT v = true
  · obtain ⟨l, rfl⟩ : ∃ l, v = .tuple l := by cases v <;> first | (cases ht; done) | exact ⟨_, rfl⟩
    have hv := hv l rfl
    have hsh : SeqAt.shaped (.list ((l.map (badO qs.length)).filterMap id)) = true := Lay.shaped (n := 1) (lay_lst.mpr fun x hx => by rw [bad_ints _ _ x hx]; exact lay_int) (by decide)
    refine sy_when (b := !true || !(PyData.eqv (.list ((l.map (badO qs.length)).filterMap id)) (.list []))) S (jt_or (jt_not (jt_val (jd_isi T.n_isinstance T.n_tuple boot_tuple (S.at 1) (kit_tuple (.tuple l))))) (fun _ => jt_ne hu (sy_lc S (jw_tup (S.at 1)) (l.map (badO qs.length)) (by simp) (by omega) (fun d ρ => ρ.set 4 (some (.dat d))) (js := [4]) (own := [("place", 4)]) (by simp) ?_ ?_ ?_ (blkOk_by (by rfl)) rfl nd) (jd_lst ja_nil) hsh rfl)) (fun h H2 S2 => ?_) (fun h H2 S2 => ?_)
    · rintro _ d ⟨s, H, C, cl, fp, rfl⟩ _
      exact jg_name 4 nd
    · rintro i d o _ B' M' σ' H' h1 h2 ⟨s, H, C, cl, fp, rfl⟩ S'
      rw [List.getElem?_map, h1] at h2
      cases h2
      refine jts_one (Jt.is (jt_or (k := !isW d) (l := !plOk qs.length d) (jt_not (jt_val (jd_call W1 (hr.mono (by decide)) (ja_cons (S'.at 4) ja_nil) rfl ⟨d, rfl, rfl⟩))) fun hw => ?_) ?_)
      · have hw : isW d = true := by simpa using hw
        obtain ⟨p, rfl⟩ : ∃ p, d = .int p := by cases d <;> first | (cases hw; done) | exact ⟨_, rfl⟩
        refine Jt.is (jt_not (jt_chain op_le op_lt jd_int (S'.at 4) (jd_len T.n_len (S'.at 0) (.inl rfl)) (by with_unfolding_all rfl))) ?_
        show (!(decide (0 ≤ p) && decide (p < (((qs.map dq).length : Nat) : Int)))) = !(decide (0 ≤ p) && decide (p < (qs.length : Int)))
        rw [List.length_map]
      · unfold badO
        have hw : plOk qs.length d = true → isW d = true := fun h => by cases d <;> first | rfl | cases h
        cases h : plOk qs.length d with
        | true => rw [hw h]; rfl
        | false => simp
    · rintro i d x _ B' M' σ' H' h1 h2 ⟨s, H, C, cl, fp, rfl⟩ S'
      rw [List.getElem?_map, h1] at h2
      have h2 : badO qs.length d = some x := Option.some.inj h2
      unfold badO at h2
      split at h2
      · cases h2
      · cases h2
        exact jd_int
    · rw [eqv_nil, bad_empty] at h
      refine sy_ret S2 (d := .bool (quotaB qs (.tuple l))) (Jd.is jd_bl ?_) fun u H' x _ p => k u H' x p
      have h : l.all (plOk qs.length) = false := by rw [Bool.not_true, Bool.false_or, Bool.not_eq_true'] at h; exact h
      show _ = PyData.bool (_ && _)
      rw [h]; rfl
    · rw [eqv_nil, bad_empty] at h
      have h : l.all (plOk qs.length) = true := by rw [Bool.not_true, Bool.false_or, Bool.not_eq_false'] at h; exact h
      have hpl : ∀ d ∈ l, plOk qs.length d = true := fun d hd => List.all_eq_true.mp h d hd
      have nl : noL (.tuple l) = true := noLs_of fun d hd => plOk_noL (hpl d hd)
      refine sy_setE 2 (S2.evN (jn_rep (ja_cons jd_int ja_nil) (jd_len T.n_len (S2.at 0) (.inl rfl)) (by omega) (by simp; omega)) fun g H3 S3 => ?_) nd
      have S3 := S3.set 2 (s := .val (.ref g)) (v := .ref g) rfl
      rw [rep0, List.length_map, Int.toNat_natCast] at S3
      have S3 : Sy K H M [some (.dat (qD qs)), some (.dat (.tuple l)), some (.val (.ref g)), none, none, none, none] [(g, .lst (iS (gsT qs.length l 0)))] _ H3 := S3
      have zl : (zipD (rgD 0 l.length) l).length = l.length := by rw [zipD_len, rgD_len]; omega
      refine sy_for S3 (jw_enumT T.n_enumerate (S3.at 1)) (fun d ρ => match d with | .tuple [i, q] => (ρ.set 3 (some (.dat i))).set 4 (some (.dat q)) | _ => ρ) (js := [3, 4]) (fun d ρ' hd => ?_)
        (fun i ρ' μ' => begN qs l i = true ∧ μ' = [(g, .lst (iS (gsT qs.length l i)))] ∧ ∃ o3 o4 o5 o6, noO o5 = true ∧ noO o6 = true ∧ ρ' = [some (.dat (qD qs)), some (.dat (.tuple l)), some (.val (.ref g)), o3, o4, o5, o6]) ⟨rfl, rfl, _, _, _, _, rfl, rfl, rfl⟩ ?_ ?_ PassesOwn.never rfl
      · obtain ⟨i, hi⟩ := List.mem_iff_getElem?.mp hd
        obtain ⟨a, q, h1, h2, rfl⟩ := zipD_get hi
        exact jg_tup rfl (jgs_cons (jg_name 3 nd) (jgs_cons (jg_name 4 nd) jgs_nil))
      · rintro i d ρ' μ' σ' H' B' hd ⟨hw, rfl, o3, o4, o5, o6, m5, m6, rfl⟩ hB S4
        obtain ⟨a, z, h1, h2, rfl⟩ := zipD_get hd
        obtain ⟨hi, rfl⟩ := rgD_get h1
        rw [Int.zero_add] at S4
        obtain ⟨p, rfl, hp2, hpN⟩ := plOk_int (hpl z (List.mem_of_getElem? h2))
        have S4 : Sy K B' M [some (.dat (qD qs)), some (.dat (.tuple l)), some (.val (.ref g)), some (.dat (.int i)), some (.dat (.int p)), o5, o6] [(g, .lst (iS (gsT qs.length l i)))] σ' H' := S4
        have gl := gsT_len qs.length l i
        obtain ⟨x, hx⟩ : ∃ x, (gsT qs.length l i)[p]? = some x := ⟨_, List.getElem?_eq_getElem (by omega)⟩
        refine sy_setIx (i := 0) (n := p) (s := .dat (.int (x + 1))) S4 (jd_add (js_ixM (i := 0) (s := .dat (.int x)) S4 (S4.atV 2).js (S4.at 4) rfl rfl (iS_at hx)) jd_int).js (S4.atV 2) (S4.at 4) rfl rfl (by unfold iS; simp; omega) fun H5 S5 => ?_
        have S5 : Sy K B' M [some (.dat (qD qs)), some (.dat (.tuple l)), some (.val (.ref g)), some (.dat (.int i)), some (.dat (.int p)), o5, o6] [(g, .lst ((iS (gsT qs.length l i)).set p (.dat (.int (x + 1)))))] σ' H5 := S5
        have eb : bump (gsT qs.length l i) p = gsT qs.length l (i + 1) := by
          show _ = bump (gsT qs.length l i) (match l[i]? with | some d => toN d | none => 0)
          rw [h2]; rfl
        rw [iS_bump hx, eb] at S5
        have gl2 := gsT_len qs.length l (i + 1)
        have gb := gsT_b (n := qs.length) (l := l) (i + 1)
        have ei : ((i + 1 : Nat) : Int) = (i : Int) + 1 := by omega
        generalize hgs : gsT qs.length l (i + 1) = gs at *
        have S5 : Sy K B' M [some (.dat (qD qs)), some (.dat (.tuple l)), some (.val (.ref g)), some (.dat (.int i)), some (.dat (.int p)), o5, o6] [(g, .lst ((gs.map PyData.int).map .dat))] σ' H5 := S5
        obtain ⟨Fz5, S6⟩ := S5.fz
        generalize J.grd [] H5 = B5 at Fz5 S6
        have bi : Bt 64 ((i : Int) + 1) := bt_of (by omega) (by omega)
        have zl2 : (zipD (qs.map dq) (gs.map PyData.int)).length = qs.length := by rw [zipD_len, List.length_map, List.length_map]; omega
        refine sy_for S6 (jw_zipB (b1 := true) (b2 := false) T.n_zip (S6.at 0) (Fz5.jd (Ex.refl _) S6 (S6.atV 2))) (fun d ρ => match d with | .tuple [q, z] => (ρ.set 5 (some (.dat q))).set 6 (some (.dat z)) | _ => ρ) (js := [5, 6]) (fun d ρ' hd => ?_)
          (fun j ρ' μ' => withinN qs gs ((i : Int) + 1) j = true ∧ μ' = [] ∧ ∃ o5 o6, noO o5 = true ∧ noO o6 = true ∧ ρ' = [some (.dat (qD qs)), some (.dat (.tuple l)), some (.val (.ref g)), some (.dat (.int i)), some (.dat (.int p)), o5, o6]) ⟨rfl, rfl, o5, o6, m5, m6, rfl⟩ ?_ ?_ PassesOwn.never rfl
        · obtain ⟨j, hj⟩ := List.mem_iff_getElem?.mp hd
          obtain ⟨a, z, h1, h2, rfl⟩ := zipD_get hj
          exact jg_tup rfl (jgs_cons (jg_name 5 nd) (jgs_cons (jg_name 6 nd) jgs_nil))
        · rintro j d ρ' μ' σ' H' B'' hd ⟨hwj, rfl, o5, o6, n5, n6, rfl⟩ hB2 S7
          obtain ⟨a, z, h1, h2, rfl⟩ := zipD_get hd
          rw [List.getElem?_map] at h1 h2
          obtain ⟨q, hq1, rfl⟩ := Option.map_eq_some_iff.mp h1
          obtain ⟨z, hz1, rfl⟩ := Option.map_eq_some_iff.mp h2
          obtain ⟨⟨q0, qb1, qb2⟩, qn⟩ := hq q (List.mem_of_getElem? hq1)
          have hj : j < qs.length := (List.getElem?_eq_some_iff.mp hq1).1
          refine sy_when (b := !okF q z ((i : Int) + 1)) S7 (jt_not (jt_chain op_le op_le (jd_call Wfl (hr.mono (by decide)) (ja_cons (S7.at 5) (ja_cons (jd_add (S7.at 3) jd_int) ja_nil)) rfl ⟨q, _, rfl, q0, qb1, qb2, bi, rfl⟩) (S7.at 6)
            (jd_call Wce (hr.mono (by decide)) (ja_cons (S7.at 5) (ja_cons (jd_add (S7.at 3) jd_int) ja_nil)) rfl ⟨q, _, rfl, q0, qb1, qb2, bi, rfl⟩) (by with_unfolding_all rfl))) (fun h H8 S8 => ?_) fun h H8 S8 => tB_nil ⟨_, _, ⟨?_, rfl, _, _, rfl, rfl, rfl⟩, S8⟩
          · refine sy_ret S8 (d := .bool (quotaB qs (.tuple l))) (Jd.is jd_bl ?_) fun u H' x _ p => k u H' (hB.trans (Fz5.le.trans (hB2.trans x))) p
            have h0 : withinN qs gs ((i : Int) + 1) (j + 1) = false := by
              show (_ && okZ qs gs _ j) = false
              rw [okZ_at hq1 hz1]
              cases e : okF q z ((i : Int) + 1) with
              | true => rw [e] at h; cases h
              | false => rw [Bool.and_false]
            have h1 : begN qs l (i + 1) = false := by
              show (_ && withinB qs (gsT qs.length l (i + 1)) _) = false
              rw [hgs, ei]
              unfold withinB
              rw [withinN_mono (by omega : j + 1 ≤ qs.length) h0, Bool.and_false]
            show _ = PyData.bool (_ && _)
            rw [begN_mono (by omega : i + 1 ≤ l.length) h1, Bool.and_false]
          · show (_ && okZ qs gs _ j) = true
            rw [okZ_at hq1 hz1, hwj]
            cases e : okF q z ((i : Int) + 1) with
            | true => rfl
            | false => rw [e] at h; cases h
        · rintro ρ' μ' σ' H' ⟨hwj, rfl, o5, o6, n5, n6, rfl⟩ S7
          rw [zl2] at hwj
          have S8 := Fz5.thaw S7 (by
            show (noL (qD qs) && (noL (.tuple l) && (true && (true && (true && (noO o5 && (noO o6 && true))))))) = true
            rw [noL_qD, nl, n5, n6]; rfl) rfl
          refine tB_nil ⟨_, _, ⟨?_, rfl, _, _, _, _, n5, n6, rfl⟩, S8⟩
          show (_ && withinB qs (gsT qs.length l (i + 1)) _) = true
          rw [hgs, ei, hw]
          exact hwj
      · rintro ρ' μ' σ' H' ⟨hw, rfl, o3, o4, o5, o6, _, _, rfl⟩ S4
        rw [zl] at hw
        refine sy_ret S4 (d := .bool (quotaB qs (.tuple l))) (Jd.is jd_bl ?_) fun u H' x _ p => k u H' x p
        show _ = PyData.bool (_ && _)
        rw [hw, h]; rfl
  · have ht : dIsT v = false := by simpa using ht
    refine sy_when (b := !(dIsT v) || true) S (jt_or (jt_not (jt_val (jd_isi T.n_isinstance T.n_tuple boot_tuple (S.at 1) (kit_tuple v)))) (fun z => ?_)) (fun h H2 S2 => ?_) (fun h H2 S2 => ?_)
    · rw [ht] at z; cases z
    · refine sy_ret S2 (d := .bool (quotaB qs v)) (Jd.is jd_bl ?_) fun u H' x _ p => k u H' x p
      cases v <;> first | rfl | cases ht
    · rw [ht] at h; cases h
end K89

set_option maxHeartbeats 4000000
namespace K89
open PySem PySem.Spec PyProof.Rows L2 J Evl
variable {P : Program} {w : World} {K : PySem.W.Frag} {mg : Str → Option Value} {base : Heap}
/-- places that may have the next seat without going beyond -/
def mayO (qs : List (Int × Int)) (gs : List Int) (c : Int) (i : Nat) : Option D := match qs[i]?, gs[i]? with
  | some q, some g => if g + 1 ≤ 0 - (0 - q.1 * (c + 1)) / q.2 then some (.int (i : Int)) else none
  | _, _ => none
def mayL (qs : List (Int × Int)) (gs : List Int) (c : Int) : List (Option D) := (List.range qs.length).map (mayO qs gs c)
theorem mayL_get {qs : List (Int × Int)} {gs : List Int} {c : Int} {i : Nat} (h : i < qs.length) : (mayL qs gs c)[i]? = some (mayO qs gs c i) := by
  unfold mayL; rw [List.getElem?_map, List.getElem?_range h]; rfl
theorem mayL_mem {qs : List (Int × Int)} {gs : List Int} {c : Int} : ∀ x ∈ (mayL qs gs c).filterMap id, ∃ p : Nat, x = .int (p : Int) ∧ p < qs.length := fun x hx => by
  obtain ⟨o, ho, e⟩ := List.mem_filterMap.mp hx
  obtain ⟨i, hi, rfl⟩ := List.mem_map.mp ho
  have e : mayO qs gs c i = some x := e
  unfold mayO at e
  split at e
  · split at e
    · cases e; exact ⟨i, rfl, List.mem_range.mp hi⟩
    · cases e
  · cases e
/-- where so many seats were given there is one -/
theorem may_some {es gs : List Int} (h : EsOk es) (hl : gs.length = es.length) {c : Int} (hs : gs.sum = c) : 0 < ((mayL (shQ es) gs c).filterMap id).length := by
  have hlt : sumN es.length (fun i => fnI gs i * es.sum) < sumN es.length (fun i => fnI es i * (c + 1)) := by
    rw [sumN_mul, sumN_mul, sumN_fn]
    have e : sumN es.length (fnI gs) = c := by rw [← hl, sumN_fn, hs]
    rw [e]
    have := h.sum.1
    rw [Int.mul_add, Int.mul_comm c]
    omega
  obtain ⟨i, hi, hlt⟩ := sumN_lt es.length hlt
  have he : es[i]? = some es[i] := List.getElem?_eq_getElem hi
  have hg : gs[i]? = some (gs[i]'(by omega)) := List.getElem?_eq_getElem (by omega)
  obtain ⟨hq, hsh⟩ := h.at he
  rw [fnI_at he, fnI_at hg] at hlt
  have hm := (may_iff hsh).mpr hlt
  have hm : gs[i] * (lowQ es[i] es.sum).2 < (lowQ es[i] es.sum).1 * (c + 1) := of_decide_eq_true hm
  have hc : gs[i] + 1 ≤ 0 - (0 - (lowQ es[i] es.sum).1 * (c + 1)) / (lowQ es[i] es.sum).2 := by
    have : (0 - (lowQ es[i] es.sum).1 * (c + 1)) / (lowQ es[i] es.sum).2 < -gs[i] := by
      rw [Int.ediv_lt_iff_lt_mul hsh.d0, Int.neg_mul]; omega
    omega
  have hin : (PyData.int (i : Int)) ∈ (mayL (shQ es) gs c).filterMap id := by
    refine List.mem_filterMap.mpr ⟨some (.int i), List.mem_map.mpr ⟨i, List.mem_range.mpr (by rw [shQ_len]; exact hi), ?_⟩, rfl⟩
    unfold mayO
    rw [hq, hg]
    exact if_pos hc
  exact List.length_pos_of_mem hin
theorem sum_bump {gs : List Int} {p : Nat} (h : p < gs.length) : (bump gs p).sum = gs.sum + 1 := by
  unfold bump
  have hg : gs[p]? = some gs[p] := List.getElem?_eq_getElem h
  have e : gs.getD p 0 = gs[p] := by rw [List.getD_eq_getElem?_getD, hg]; rfl
  rw [e]
  clear e hg
  induction gs generalizing p with
  | nil => simp at h
  | cons g gs ih =>
    cases p with
    | zero => simp only [List.getElem_cons_zero, List.set_cons_zero, List.sum_cons]; omega
    | succ p =>
      simp only [List.getElem_cons_succ, List.set_cons_succ, List.sum_cons]
      rw [ih (by simpa using h)]; omega
theorem bump_len (gs : List Int) (p : Nat) : (bump gs p).length = gs.length := by unfold bump; rw [List.length_set]
theorem bump_b {gs : List Int} {p : Nat} {c : Int} (c0 : 0 ≤ c) (h : ∀ g ∈ gs, 0 ≤ g ∧ g ≤ c) : ∀ g ∈ bump gs p, 0 ≤ g ∧ g ≤ c + 1 := fun g hg => by
  rcases List.mem_or_eq_of_mem_set hg with hg | hg
  · have := h g hg; omega
  · rw [hg, List.getD_eq_getElem?_getD]
    cases e : gs[p]? with
    | none => simp; omega
    | some x => have := h x (List.mem_of_getElem? e); simp; omega
def PreL : List Sv → Mu → Prop := fun ss μ => ∃ (a l : Addr) (n : Nat) (es : List Int) (m : Nat), ss = [.val (.ref a), .dat (qD (shQ es)), .dat (.int (m : Int))] ∧ EsOk es ∧ m ≤ 1000 ∧ n < 2 ^ 28 ∧ Drs a l n μ
def RL : List Sv → Mu → Sv → Mu → Prop := fun ss μ s μ' => ∃ (v : Sv) (es : List Int) (m : Nat) (fs : List D), ss = [v, .dat (qD (shQ es)), .dat (.int (m : Int))] ∧ s = .dat (.tuple fs) ∧ fs.length = m ∧ (∀ x ∈ fs, ∃ p : Nat, x = .int (p : Int) ∧ p < es.length) ∧ Stp m μ μ'
theorem fd_law_led (T : Tx K mg) : Fd CX0 P w K mg base 4 "_law_led" ["draws", "shares", "many"] (spM K 3 PreL RL noF) := by
  have W1 := fd_law_pick (P := P) (w := w) (base := base) T
  have W2 := fd_law_st_ceiling (P := P) (w := w) (base := base) T
  obtain ⟨fd, F, hm⟩ := T.f_law_led
  have nd := sc_law_led.nd
  refine fd_mk F hm (ok_M F sc_law_led rfl fun cdv A outer s H E B M0 vs ss μ D' hr hl hP S k kn => ?_) (fun _ _ _ _ _ _ us hl => match us, hl with | [_, _, _], _ => rfl)
  obtain ⟨a, l, n, es, m, rfl, hE, hm1, hn, hD⟩ := hP
  have lq := shQ_len es
  have l5 := hE.2.1
  have l1 := hE.1
  refine sy_tup2 4 5 (tA_cons (S.evN (jn_rep (ja_cons jd_int ja_nil) (jd_len T.n_len (S.at 1) (.inl rfl)) (by omega) (by simp; omega)) fun g H1 S1 => tA_cons (S1.evN (jn_lst ja_nil) fun f H2 S2 => tA_nil ⟨_, _, rfl, fun tq htq => ?_⟩))) rfl nd
  have S2 := S2.ex (Ex.new (o := .tup [.ref g, .ref f]) htq)
  have S2 := (S2.set 4 (s := .val (.ref g)) (v := .ref g) rfl).set 5 (s := .val (.ref f)) (v := .ref f) rfl
  rw [rep0, List.length_map, Int.toNat_natCast] at S2
  have S2 : Sy K B M0 [some (.val (.ref a)), some (.dat (qD (shQ es))), some (.dat (.int m)), none, some (.val (.ref g)), some (.val (.ref f)), none, none, none] (((f, .lst (([] : List D).map .dat)) :: (g, .lst (iS (List.replicate (shQ es).length 0))) :: μ)) _ _ := S2
  refine sy_for S2 (jw_rng1 T.n_range (S2.at 2) (by omega)) (fun d ρ => ρ.set 3 (some (.dat d))) (js := [3]) (fun d ρ' _ => jg_name 3 nd)
    (fun i ρ' μ' => ∃ gs fs μ1, gs.length = es.length ∧ gs.sum = (i : Int) ∧ (∀ g ∈ gs, 0 ≤ g ∧ g ≤ (i : Int)) ∧ fs.length = i ∧ (∀ x ∈ fs, ∃ p : Nat, x = .int (p : Int) ∧ p < es.length) ∧ Stp i μ μ1 ∧ μ' = ((f, .lst ((fs : List D).map .dat)) :: (g, .lst (iS gs)) :: μ1) ∧
      ∃ o3 o6 o7 o8, ρ' = [some (.val (.ref a)), some (.dat (qD (shQ es))), some (.dat (.int m)), o3, some (.val (.ref g)), some (.val (.ref f)), o6, o7, o8])
    ⟨List.replicate (shQ es).length 0, [], μ, by simp [lq], by simp, (fun g hg => by rw [(List.mem_replicate.mp hg).2]; simp), rfl, by simp, Stp.zero, rfl, _, _, _, _, rfl⟩ ?_ ?_ PassesOwn.never rfl
  · rintro i d ρ' μ' σ' H' B' hd ⟨gs, fs, μ1, hgl, hgs, hgb, hfl, hfx, st1, rfl, o3, o6, o7, o8, rfl⟩ hB S3
    obtain ⟨him, rfl⟩ := rgD_get hd
    rw [Int.zero_add] at S3
    have S3 : Sy K B' M0 [some (.val (.ref a)), some (.dat (qD (shQ es))), some (.dat (.int m)), some (.dat (.int i)), some (.val (.ref g)), some (.val (.ref f)), o6, o7, o8] ((f, .lst ((fs : List D).map .dat)) :: (g, .lst (iS gs)) :: μ1) σ' H' := S3
    have bi : Bt 64 ((i : Int) + 1) := bt_of (by omega) (by omega)
    have zl : (zipD (rgD 0 ((shQ es).map dq).length) ((shQ es).map dq)).length = (shQ es).length := by rw [zipD_len, rgD_len, List.length_map]; omega
    refine tB_setLc 6 (lcN_own S3 (jw_enumT T.n_enumerate (S3.at 1)) (mayL (shQ es) gs i) (by rw [zl]; simp [mayL]) (by rw [zl]; omega) (fun d ρ => match d with | .tuple [i, q] => (ρ.set 7 (some (.dat i))).set 8 (some (.dat q)) | _ => ρ) (js := [7, 8]) (own := [("place", 7), ("share", 8)]) (by simp) ?_ ?_ ?_ fun c H4 S4 => ?_) (blkOk_by (by rfl)) rfl nd
    · rintro _ d ⟨s, H, C, cl, fp, rfl⟩ hd
      obtain ⟨j, hj⟩ := List.mem_iff_getElem?.mp hd
      obtain ⟨x, q, h1, h2, rfl⟩ := zipD_get hj
      exact jg_tup rfl (jgs_cons (jg_name 7 nd) (jgs_cons (jg_name 8 nd) jgs_nil))
    · rintro j d o _ B' M' σ' H' h1 h2 ⟨s, H, C, cl, fp, rfl⟩ S'
      obtain ⟨x, q, h3, h4, rfl⟩ := zipD_get h1
      obtain ⟨hj, rfl⟩ := rgD_get h3
      rw [List.length_map] at hj
      rw [List.getElem?_map] at h4
      obtain ⟨q, hq, rfl⟩ := Option.map_eq_some_iff.mp h4
      rw [Int.zero_add] at S'
      obtain ⟨⟨q0, qb1, qb2⟩, qn⟩ := hE.sh.2.2 q (List.mem_of_getElem? hq)
      have hx : gs[j]? = some (gs[j]'(by omega)) := List.getElem?_eq_getElem (by omega)
      rw [mayL_get hj] at h2
      have h2 : mayO (shQ es) gs i j = o := Option.some.inj h2
      refine jts_one (Jt.is (jt_le (jd_add (js_ixM (i := 1) (s := .dat (.int gs[j])) S' (S'.atV 4).js (S'.at 7) rfl rfl (iS_at hx)) jd_int) (jd_call W2 (hr.mono (by decide)) (ja_cons (S'.at 8) (ja_cons (jd_add (S'.at 3) jd_int) ja_nil)) rfl ⟨q, _, rfl, q0, qb1, qb2, bi, rfl⟩)) ?_)
      rw [← h2]
      unfold mayO
      rw [hq, hx]
      show decide (gs[j] + 1 ≤ 0 - (0 - q.1 * ((i : Int) + 1)) / q.2) = _
      by_cases z : gs[j] + 1 ≤ 0 - (0 - q.1 * ((i : Int) + 1)) / q.2
      · rw [decide_eq_true z]; simp only [if_pos z]; rfl
      · rw [decide_eq_false z]; simp only [if_neg z]; rfl
    · rintro j d x _ B' M' σ' H' h1 h2 ⟨s, H, C, cl, fp, rfl⟩ S'
      obtain ⟨y, q, h3, h4, rfl⟩ := zipD_get h1
      obtain ⟨hj, rfl⟩ := rgD_get h3
      rw [List.length_map] at hj
      rw [mayL_get hj] at h2
      have h2 : mayO (shQ es) gs i j = some x := Option.some.inj h2
      unfold mayO at h2
      split at h2
      · split at h2
        · cases h2
          rw [Int.zero_add] at S'
          exact S'.at 7
        · cases h2
      · cases h2
    · have S5 := (S4.set 6 (s := .val (.ref c)) (v := .ref c) rfl).frz 6 0 rfl rfl
      have S5 : Sy K B' M0 [some (.val (.ref a)), some (.dat (qD (shQ es))), some (.dat (.int m)), some (.dat (.int i)), some (.val (.ref g)), some (.val (.ref f)), some (.dat (.list ((mayL (shQ es) gs i).filterMap id))), o7, o8] (μ1 ++ [(f, .lst ((fs : List D).map .dat)), (g, .lst (iS gs))]) _ H4 := S5.perm (List.perm_append_comm (l₁ := μ1) (l₂ := [_, _]))
      have hpos := may_some hE hgl hgs
      have hle : ((mayL (shQ es) gs i).filterMap id).length ≤ (mayL (shQ es) gs i).length := List.length_filterMap_le _ _
      have hml : (mayL (shQ es) gs i).length = (shQ es).length := by simp [mayL]
      have hD1 := st1 _ _ _ hD
      refine sy_setE 7 (jm_call (μ1 := μ1) (μ2 := [(f, .lst ((fs : List D).map .dat)), (g, .lst (iS gs))]) S5 W1 (hr.mono (by decide)) (jsa_cons (S5.atV 0).js (jsa_cons (S5.at 6).js jsa_nil)) rfl ⟨a, l, _, _, rfl, hpos, by omega, by omega, hD1⟩ fun v s' μ2 H6 hR S6 hv => ?_) nd
      obtain ⟨x, rfl, hx, st2⟩ := sP hR
      obtain ⟨p, rfl, hp⟩ := mayL_mem x hx
      have S6 := S6.set 7 (s := .dat (.int p)) (v := v) hv
      have S6 : Sy K B' M0 [some (.val (.ref a)), some (.dat (qD (shQ es))), some (.dat (.int m)), some (.dat (.int i)), some (.val (.ref g)), some (.val (.ref f)), some (.dat (.list ((mayL (shQ es) gs i).filterMap id))), some (.dat (.int p)), o8] ([(f, .lst ((fs : List D).map .dat)), (g, .lst (iS gs))] ++ μ2) _ H6 := S6.perm (List.perm_append_comm (l₁ := [_, _]) (l₂ := μ2))
      have hxg : gs[p]? = some (gs[p]'(by omega)) := List.getElem?_eq_getElem (by omega)
      refine sy_setIx (i := 1) (n := p) (s := .dat (.int (gs[p] + 1))) S6 (jd_add (js_ixM (i := 1) (s := .dat (.int gs[p])) S6 (S6.atV 4).js (S6.at 7) rfl rfl (iS_at hxg)) jd_int).js (S6.atV 4) (S6.at 7) rfl rfl (by unfold iS; simp; omega) fun H7 S7 => ?_
      have S7 : Sy K B' M0 [some (.val (.ref a)), some (.dat (qD (shQ es))), some (.dat (.int m)), some (.dat (.int i)), some (.val (.ref g)), some (.val (.ref f)), some (.dat (.list ((mayL (shQ es) gs i).filterMap id))), some (.dat (.int p)), o8] ((f, .lst ((fs : List D).map .dat)) :: (g, .lst ((iS gs).set p (.dat (.int (gs[p] + 1))))) :: μ2) _ H7 := S7
      rw [iS_bump hxg] at S7
      refine sy_app (i := 0) S7 (S7.atV 5) (S7.at 7).js rfl (by simp; omega) fun H8 S8 => tB_nil ⟨_, _, ⟨bump gs p, fs ++ [.int p], μ2, by rw [bump_len]; exact hgl, by rw [sum_bump (by omega), hgs]; omega, (by
        have ei : ((i + 1 : Nat) : Int) = (i : Int) + 1 := by omega
        rw [ei]; exact bump_b (by omega) hgb), by simp [hfl], fun x hx => ?_, (st1.trans st2).le (by omega), ?_, _, _, _, _, rfl⟩, S8⟩
      · rcases List.mem_append.mp hx with hx | hx
        · exact hfx x hx
        · rw [List.mem_singleton.mp hx]; exact ⟨p, rfl, by omega⟩
      · show ((f, Mo.lst ((fs : List D).map .dat ++ [.dat (.int p)])) :: _) = _
        rw [List.map_append]; rfl
  · rintro ρ' μ' σ' H' ⟨gs, fs, μ1, hgl, hgs, hgb, hfl, hfx, st1, rfl, o3, o6, o7, o8, rfl⟩ S3
    rw [rgD_len, Int.toNat_natCast] at *
    have S4 := S3.frz 5 0 rfl rfl
    have S4 : Sy K B M0 [some (.val (.ref a)), some (.dat (qD (shQ es))), some (.dat (.int m)), o3, some (.val (.ref g)), some (.dat (.list fs)), o6, o7, o8] ((g, .lst (iS gs)) :: μ1) _ H' := S4
    have S4 := S4.drop1
    exact sy_retE (S4.ev (jd_tupOf T.n_tuple (S4.at 5)) fun v H6 S6 _ pv => k v (.dat (.tuple fs)) _ H6 ⟨_, es, m, fs, rfl, rfl, hfl, hfx, st1⟩ (S6.one pv))
end K89

set_option maxHeartbeats 4000000
namespace K89
open PySem PySem.Spec PyProof.Rows L2 J Evl
variable {P : Program} {w : World} {K : PySem.W.Frag} {mg : Str → Option Value} {base : Heap}
def PreC : List Sv → Mu → Prop := fun ss μ => ∃ (a l : Addr) (n : Nat) (fs : List D) (m : Nat), ss = [.val (.ref a), .dat (.tuple fs), .dat (.int (m : Int))] ∧ 0 < fs.length ∧ fs.length ≤ 500 ∧ 0 < m ∧ m ≤ 1000 ∧ n < 2 ^ 28 ∧ Drs a l n μ
def RC : List Sv → Mu → Sv → Mu → Prop := fun _ μ s μ' => ∃ (c : Addr) (xs : List D) (μ1 : Mu), s = .val (.ref c) ∧ μ' = (c, .lst (xs.map .dat)) :: μ1 ∧ xs.length ≤ 5 ∧ (∀ x ∈ xs, VOk x) ∧ Stp 3 μ μ1
theorem vok_tup {l : List D} (h : l.length ≤ 1000) : VOk (.tuple l) := fun l' e => by cases e; exact h
theorem fd_law_changed (T : Tx K mg) : Fd CX0 P w K mg base 3 "_law_changed" ["draws", "told", "many"] (spM K 3 PreC RC noF) := by
  have W1 := fd_law_draw (P := P) (w := w) (base := base) T
  obtain ⟨fd, F, hm⟩ := T.f_law_changed
  have nd := sc_law_changed.nd
  refine fd_mk F hm (ok_M F sc_law_changed rfl fun cdv A outer s H E B M0 vs ss μ D' hr hl hP S k kn => ?_) (fun _ _ _ _ _ _ us hl => match us, hl with | [_, _, _], _ => rfl)
  obtain ⟨a, l, n, fs, m, rfl, f0, f5, m0, m1, hn, hD⟩ := hP
  refine sy_parE 4 5 (tA_cons (Sx.call (μ1 := μ) (μ2 := []) (ts := []) (vs := []) (by rw [List.append_nil]; exact S.sx) W1 (hr.mono (by decide)) (jsa_cons (by rw [List.append_nil]; exact (S.atV 0).js) (jsa_cons (by rw [List.append_nil]; exact (jd_len T.n_len (S.at 1) (.inl rfl)).js) jsa_nil)) rfl (preD hD (by omega) (by omega) (by omega)) fun v s' μ1 H1 hR S1 => ?_)) rfl nd (by decide) rfl
  obtain ⟨at_, rfl, a0, a1, st1⟩ := sD hR
  rw [List.append_nil] at S1
  have hD1 := st1 _ _ _ hD
  refine tA_cons (Sx.call (μ1 := μ1) (μ2 := []) (by rw [List.append_nil]; exact S1) W1 (hr.mono (by decide)) (jsa_cons (by rw [List.append_nil]; exact (S1.base.atV 0).js) (jsa_cons (by rw [List.append_nil]; exact (jd_len T.n_len (S1.base.at 1) (.inl rfl)).js) jsa_nil)) rfl (preD hD1 (by omega) (by omega) (by omega)) fun v2 s2 μ2 H2 hR2 S2 => ?_)
  obtain ⟨ot, rfl, b0, b1, st2⟩ := sD hR2
  rw [List.append_nil] at S2
  have hD2 := st2 _ _ _ hD1
  refine tA_nil ⟨_, _, rfl, ?_⟩
  have hv := S2.vals
  cases hv with | cons q1 hv => cases hv with | cons q2 _ =>
  obtain ⟨ia, rfl⟩ : ∃ i : Nat, at_ = (i : Int) := ⟨at_.toNat, by omega⟩
  obtain ⟨io, rfl⟩ : ∃ i : Nat, ot = (i : Int) := ⟨ot.toNat, by omega⟩
  have q1 : v = .int ia := dInt q1
  have q2 : v2 = .int io := dInt q2
  subst q1 q2
  have S3 := (S2.base.set 4 (s := .dat (.int ia)) (v := .int ia) (Dp.int _)).set 5 (s := .dat (.int io)) (v := .int io) (Dp.int _)
  have S3 : Sy K B M0 [some (.val (.ref a)), some (.dat (.tuple fs)), some (.dat (.int m)), none, some (.dat (.int ia)), some (.dat (.int io))] μ2 _ H2 := S3
  refine sy_setE 3 (S3.evN (jn_lstOf T.n_list (S3.at 1) (.inr rfl)) fun p H4 S4 => ?_) nd
  have S4 := S4.set 3 (s := .val (.ref p)) (v := .ref p) rfl
  have S4 : Sy K B M0 [some (.val (.ref a)), some (.dat (.tuple fs)), some (.dat (.int m)), some (.val (.ref p)), some (.dat (.int ia)), some (.dat (.int io))] ((p, .lst (fs.map .dat)) :: μ2) _ H4 := S4
  generalize hσ4 : List.set _ 3 (some (V.ref p)) = σ4 at S4
  rw [← hσ4]
  have g1 : fs[ia]? = some (fs[ia]'(by omega)) := List.getElem?_eq_getElem (by omega)
  have g2 : fs[io]? = some (fs[io]'(by omega)) := List.getElem?_eq_getElem (by omega)
  rw [hσ4]
  obtain ⟨w4, k41, k42⟩ := S4.sl 4 _ rfl
  have k42 : w4 = .int ia := dInt k42
  subst k42
  obtain ⟨w5, k51, k52⟩ := S4.sl 5 _ rfl
  have k52 : w5 = .int io := dInt k52
  subst k52
  obtain ⟨w3, k31, k32⟩ := S4.sl 3 _ rfl
  have k32 : w3 = .ref p := k32
  subst k32
  refine sy_swap (m := 0) (i := ia) (j := io) S4 rfl rfl (fun H' => jv_var 3 k31) (fun H' => jv_var 3 k31) (fun H' => jv_var 3 k31) (fun H' => jv_var 3 k31) (fun H' => jv_var 4 k41) (fun H' => jv_var 5 k51) (fun H' => jv_var 5 k51) (fun H' => jv_var 4 k41) (s1 := .dat fs[ia]) (s2 := .dat fs[io]) (by rw [List.getElem?_map, g1]; rfl) (by rw [List.getElem?_map, g2]; rfl) fun H5 S5 => ?_
  have e5 : ((fs.map Sv.dat).set ia (.dat fs[io])).set io (.dat fs[ia]) = ((fs.set ia fs[io]).set io fs[ia]).map Sv.dat := by rw [List.map_set, List.map_set]
  rw [e5] at S5
  generalize hgs : (fs.set ia fs[io]).set io fs[ia] = gs at S5
  have gl : gs.length = fs.length := by rw [← hgs, List.length_set, List.length_set]
  have S6 := S5.frz 3 0 rfl rfl
  have S6 : Sy K B M0 [some (.val (.ref a)), some (.dat (.tuple fs)), some (.dat (.int m)), some (.dat (.list gs)), some (.dat (.int ia)), some (.dat (.int io))] μ2 σ4 H5 := S6
  -- the list
  refine sy_retE (tW_lst (n := 0) (tA_cons (S6.sx.ev (Jd.js (jd_tupOf T.n_tuple (S6.at 3))) fun v1 H7 S7 => tA_cons ?_)))
  refine leW (pe_op op_catA pe_W pe_W) (leW (pe_op op_catA pe_W pe_W) (S7.ev (Jd.js (jd_slTo (n := ia) (S7.base.at 1) (S7.base.at 4) rfl (by omega))) fun v2 H8 S8 => tW_tup (n := 0) (tA_cons (Sx.call (μ1 := μ2) (μ2 := []) (by rw [List.append_nil]; exact S8) W1 (hr.mono (by decide)) (jsa_cons (by rw [List.append_nil]; exact (S8.base.atV 0).js) (jsa_cons (by rw [List.append_nil]; exact (S8.base.at 2).js) jsa_nil)) rfl (preD hD2 (by omega) (by omega) (by omega)) fun v3 s3 μ3 H9 hR3 S9 => ?_))))
  obtain ⟨z, rfl, z0, z1, st3⟩ := sD hR3
  rw [List.append_nil] at S9
  refine tA_nil ⟨by simp, fun t ht => ?_⟩
  have S10 := Sx.mkTup (ts := [.dat (.tuple gs), .dat (.tuple (fs.take ia))]) (vs := [v1, v2]) (us := [.dat (.int z)]) (ws := [v3]) (ds := [.int z]) S9 rfl rfl ht
  refine Sx.cat (ts := [.dat (.tuple gs)]) (vs := [v1]) S10 rfl (by simp; omega) fun v4 H11 S11 => ?_
  refine S11.ev (Jd.js (jd_slFrom (n := ia + 1) (S11.base.at 1) (jd_add (S11.base.at 4) jd_int) (by omega) (by omega))) fun v5 H12 S12 => ?_
  refine Sx.cat (ts := [.dat (.tuple gs)]) (vs := [v1]) S12 rfl (by simp; omega) fun v6 H13 S13 => ?_
  refine tA_cons (S13.ev (Jd.js (jd_cat (jd_slTo (n := ia) (S13.base.at 1) (S13.base.at 4) rfl (by omega)) (jd_slFrom (n := ia + 1) (S13.base.at 1) (jd_add (S13.base.at 4) jd_int) (by omega) (by omega)) (by simp; omega))) fun v7 H14 S14 => ?_)
  refine tA_cons (S14.ev (Jd.js (jd_cat (S14.base.at 1) (jd_slLast (S14.base.at 1) (jd_neg jd_int) (fun e => by rw [e] at f0; simp at f0)) (by simp; omega))) fun v8 H15 S15 => ?_)
  refine tA_cons (S15.ev (Jd.js (jd_cat (jd_cat (jd_slTo (n := ia) (S15.base.at 1) (S15.base.at 4) rfl (by omega)) (jd_tup (ja_cons jd_non ja_nil)) (by simp; omega)) (jd_slFrom (n := ia + 1) (S15.base.at 1) (jd_add (S15.base.at 4) jd_int) (by omega) (by omega)) (by simp; omega))) fun v9 H16 S16 => ?_)
  refine tA_nil ⟨by simp, fun c hc => ?_⟩
  have S17 := Sx.lst (ts := []) (vs := []) S16 rfl hc
  let xs : List D := [PyData.tuple gs, PyData.tuple (fs.take ia ++ [PyData.int z] ++ fs.drop (ia + 1)), PyData.tuple (fs.take ia ++ fs.drop (ia + 1)), PyData.tuple (fs ++ fs.drop (fs.length - 1)), PyData.tuple (fs.take ia ++ [PyData.none] ++ fs.drop (ia + 1))]
  have S18 : Sy K B M0 _ ((c, .lst (xs.map .dat)) :: μ3) σ4 _ := S17.base
  refine k (.ref c) (.val (.ref c)) _ _ ⟨c, xs, μ3, rfl, rfl, by simp [xs], fun x hx => ?_, ((st1.trans st2).trans st3).le (by decide)⟩ (Sy.one (s := .val (.ref c)) (v := .ref c) S18 rfl)
  simp only [xs, List.mem_cons, List.not_mem_nil, or_false] at hx
  rcases hx with rfl | rfl | rfl | rfl | rfl <;> exact vok_tup (by first | omega | (simp; omega))
end K89

set_option maxHeartbeats 4000000
namespace K89
open PySem PySem.Spec PyProof.Rows L2 J Evl LamX
variable {P : Program} {w : World} {K : PySem.W.Frag} {mg : Str → Option Value} {base : Heap}
/-! ### the first seats are such an order -/
theorem sAt_lt {es : List Int} (h : EsOk es) (n : Nat) : sAt (shQ es) n < es.length := by
  obtain ⟨b, g, h1, h2, h3, h4⟩ := sAt_best h n
  have := (List.getElem?_eq_some_iff.mp h3).1
  rw [gAt_len, shQ_len] at this
  exact this
theorem fst_at {es : List Int} {n i : Nat} (h : i < n) : ((fstS es n).map PyData.int)[i]? = some (.int ((sAt (shQ es) i : Nat) : Int)) := by
  unfold fstS; rw [List.getElem?_map, List.getElem?_map, List.getElem?_range h]; rfl
theorem gsT_fst {es : List Int} {n : Nat} : ∀ i, i ≤ n → gsT (shQ es).length ((fstS es n).map PyData.int) i = gAt (shQ es) i
  | 0, _ => rfl
  | i + 1, h => by
    show bump (gsT _ _ i) (match ((fstS es n).map PyData.int)[i]? with | some d => toN d | none => 0) = _
    rw [gsT_fst i (by omega), fst_at (by omega)]
    show bump (gAt (shQ es) i) ((sAt (shQ es) i : Nat) : Int).toNat = bump (gAt (shQ es) i) (sAt (shQ es) i)
    rw [Int.toNat_natCast]
theorem within_gAt {es : List Int} (h : EsOk es) (c : Nat) : withinB (shQ es) (gAt (shQ es) c) (c : Int) = true := by
  have key : ∀ n, withinN (shQ es) (gAt (shQ es) c) (c : Int) n = true := by
    intro n
    induction n with
    | zero => rfl
    | succ n ih =>
      show (_ && okZ _ _ _ n) = true
      rw [ih, Bool.true_and]
      unfold okZ
      cases e1 : (shQ es)[n]? with
      | none => rfl
      | some q =>
        cases e2 : (gAt (shQ es) c)[n]? with
        | none => rfl
        | some g =>
          obtain ⟨lo, up, _, _⟩ := gd_bounds h (gAt_gd h c) e1 e2
          show okF q g (c : Int) = true
          unfold okF
          rw [decide_eq_true lo, decide_eq_true up]; rfl
  exact key _
theorem fst_quota {es : List Int} (h : EsOk es) (n : Nat) : quotaB (shQ es) (.tuple ((fstS es n).map PyData.int)) = true := by
  have h1 : ((fstS es n).map PyData.int).all (plOk (shQ es).length) = true := List.all_eq_true.mpr fun d hd => by
    obtain ⟨x, hx, rfl⟩ := List.mem_map.mp hd
    obtain ⟨i, hi, rfl⟩ := List.mem_map.mp hx
    have := sAt_lt h i
    show (decide ((0 : Int) ≤ ((sAt (shQ es) i : Nat) : Int)) && decide (((sAt (shQ es) i : Nat) : Int) < (((shQ es).length : Nat) : Int))) = true
    rw [decide_eq_true (by omega), decide_eq_true (by rw [shQ_len]; omega)]; rfl
  have h2 : ∀ i, i ≤ n → begN (shQ es) ((fstS es n).map PyData.int) i = true := by
    intro i
    induction i with
    | zero => intro _; rfl
    | succ i ih =>
      intro hi
      show (_ && withinB _ (gsT _ _ (i + 1)) _) = true
      rw [ih (by omega), gsT_fst (i + 1) hi, Bool.true_and]
      exact within_gAt h (i + 1)
  show (_ && _) = true
  rw [h1, h2 _ (by rw [List.length_map, fstS_len]; exact Nat.le_refl _)]; rfl
theorem eqvA_ints : ∀ xs : List Int, PyData.eqvAll (xs.map PyData.int) (xs.map PyData.int) = true
  | [] => by simp [PyData.eqvAll]
  | x :: xs => by simp [PyData.eqvAll, PyData.eqv, eqvA_ints xs]
theorem eqv_intsT (xs : List Int) : PyData.eqv (.tuple (xs.map PyData.int)) (.tuple (xs.map PyData.int)) = true := by
  rw [PyData.eqv]; exact eqvA_ints xs
theorem shaped_intsT (xs : List Int) : SeqAt.shaped (.tuple (xs.map PyData.int)) = true := Lay.shaped (n := 1) (lay_tup.mpr fun x hx => by
  obtain ⟨i, _, rfl⟩ := List.mem_map.mp hx
  exact lay_int) (by decide)
/-! ### what is not parts -/
def odL (qs : List (Int × Int)) : List D := [.none, .tuple [], .list (qs.map dq), .tuple (qs.map dq ++ [dq (1, 1)]), .tuple [dq (1, 2), dq (1, 3)], .tuple [dq (2, 2)]]
theorem odL_not {es : List Int} (h : EsOk es) : ∀ x ∈ odL (shQ es), K89.isP x = false ∧ Ask x := by
  have b : ∀ {x : Int}, -100 < x → x < 100 → Bt 64 x := fun h1 h2 => bt_of (by omega) (by omega)
  intro x hx
  unfold odL at hx
  simp only [List.mem_cons, List.not_mem_nil, or_false] at hx
  rcases hx with rfl | rfl | rfl | rfl | rfl | rfl
  · exact ⟨rfl, fun l e => by cases e⟩
  · exact ⟨by decide, fun l e x hx => by cases e; cases hx⟩
  · exact ⟨rfl, fun l e => by cases e⟩
  · refine ⟨?_, ask_list fun x hx => ?_⟩
    · show ((decide (1 ≤ (((shQ es).map dq ++ [dq (1, 1)]).length : Int)) && decide ((((shQ es).map dq ++ [dq (1, 1)]).length : Int) ≤ 5)) && (((shQ es).map dq ++ [dq (1, 1)]).all isSh && PyData.eqv (dq (totQ (((shQ es).map dq ++ [dq (1, 1)]).map toQ))) (dq (1, 1)))) = false
      have e : ((shQ es).map dq ++ [dq (1, 1)]).map toQ = shQ es ++ [(1, 1)] := by rw [List.map_append, map_toQ]; rfl
      have t : totQ (shQ es ++ [(1, 1)]) = (2, 1) := by
        unfold totQ
        rw [List.foldl_append]
        have := tot_sh h.sum.1
        unfold totQ at this
        rw [this]
        decide
      rw [e, t]
      have : PyData.eqv (dq (2, 1)) (dq (1, 1)) = false := by decide
      rw [this, Bool.and_false, Bool.and_false]
    · rcases List.mem_append.mp hx with hx | hx
      · obtain ⟨q, hq, rfl⟩ := List.mem_map.mp hx
        obtain ⟨_, b1, b2⟩ := (h.sh.2.2 q hq).1
        exact ⟨q, rfl, b1, b2⟩
      · rw [List.mem_singleton.mp hx]
        exact ⟨(1, 1), rfl, b (by decide) (by decide), b (by decide) (by decide)⟩
  · refine ⟨by decide, ask_list fun x hx => ?_⟩
    simp only [List.mem_cons, List.not_mem_nil, or_false] at hx
    rcases hx with rfl | rfl <;> exact ⟨(_, _), rfl, b (by decide) (by decide), b (by decide) (by decide)⟩
  · refine ⟨by decide, ask_list fun x hx => ?_⟩
    rw [List.mem_singleton.mp hx]
    exact ⟨(_, _), rfl, b (by decide) (by decide), b (by decide) (by decide)⟩
abbrev XL (P : Program) (w : World) (K : PySem.W.Frag) (mg : Str → Option Value) (base : Heap) (c : Addr) (A : Around) (outer : List Env) (s : Shared) (H : Hp) (E : XK) : Cx := bodyX P w K mg base N_law "law" s_law (He.ga K "law") (.ref c) A outer s H E
abbrev Tq (TP : Addr) : Addr × Mo := (TP, .tab (("law.<locals>." : Str) ++ "<lambda>"))
theorem drs_noTab {a l : Addr} {n : Nat} {μ : Mu} (h : Drs a l n μ) : ∀ p ∈ μ, noTab p.2 := by
  obtain ⟨gs, cs, r, t, _, _, _, rfl⟩ := h
  intro p hp
  unfold Dr at hp
  simp only [List.mem_cons, List.not_mem_nil, or_false] at hp
  rcases hp with rfl | rfl <;> exact True.intro
def forBody : Stmt → List Stmt
  | .For _ _ b _ _ => b
  | _ => []
/-- the law's loop -/
abbrev loopB : List Stmt := forBody ((defBody s_law).getD 1 (.Pass ⟨0, 0, 0, 0⟩))
abbrev noH : Hp := fun _ => none
theorem jd_q {X : Cx} {M : List Addr} {σ : L2.St} {H : Hp} {n m : Int} {k1 k2 k3 : Nat} {p1 p2 p3 : Pos} (hs1 : starEach [.Constant (.int n) k1 p1, .Constant (.int m) k2 p2] X.env = (false, eval (.Constant (.int n) k1 p1) X.env) :: starEach [.Constant (.int m) k2 p2] X.env := by rfl)
    (hs2 : starEach [.Constant (.int m) k2 p2] X.env = (false, eval (.Constant (.int m) k2 p2) X.env) :: starEach [] X.env := by rfl) : Jd X M (.Tuple [.Constant (.int n) k1 p1, .Constant (.int m) k2 p2] k3 p3) σ H (dq (n, m)) := jd_tup (ja_cons jd_int (ja_cons jd_int ja_nil hs2) hs1)
/-! ### the law's tail: two refusals of what is not parts -/
theorem law_tail2 (T : Tx K mg) {c TP : Addr} {A : Around} {outer : List Env} {s : Shared} {H0 : Hp} {E : XK} (TB : TabB base mg c TP) (hr : Room 12 (XL P w K mg base c A outer s H0 E).A) {a l : Addr} {n : Nat} {μ1 : Mu} (hD1 : Drs a l n μ1)
    {x d0 : D} {o2 o3 o4 o5 o6 o7 o8 o10 o11 o12 o13 : Option Sv} {σ1 : L2.St} {H1 : Hp} {D' : Ends} (hp : K89.isP x = false) (hask : Ask x) (S1 : Sy K noH [] [some (.dat d0), some (.val (.ref a)), o2, o3, o4, o5, o6, o7, o8, some (.dat x), o10, o11, o12, o13] ([Tq TP] ++ μ1) σ1 H1)
    (fin : ∀ σ' H', Sy K noH [] [some (.dat d0), some (.val (.ref a)), o2, o3, o4, o5, o6, o7, o8, some (.dat x), o10, o11, o12, o13] ([Tq TP] ++ μ1) σ' H' → D'.nx σ' H') :
    tB (XL P w K mg base c A outer s H0 E) (loopB.drop 10) D' σ1 H1 := by
  obtain ⟨fdf, okf, Ff, hmf⟩ := ok_first_seats (P := P) (w := w) (base := base) T
  have Wf : Fd (CX P w) P w K mg base 9 "first_seats" ["shares", "many"] _ := fd_mk Ff hmf okf (fun _ _ _ _ _ _ us hl => match us, hl with | [_, _], _ => rfl)
  obtain ⟨fdq, okq, Fq, hmq⟩ := ok_is_quota (P := P) (w := w) (base := base) T
  have Wq : Fd (CX P w) P w K mg base 7 "is_quota" ["shares", "value"] _ := fd_mk Fq hmq okq (fun _ _ _ _ _ _ us hl => match us, hl with | [_, _], _ => rfl)
  obtain ⟨fdc, Fc, hmc⟩ := T.f_law_caught
  have C := T.e_BadShares
  refine tB_if (tT_not (tT_val (jm_isE (call_isV C) T.n_isinstance T.g_BadShares (jm_caughtP (k := 10) (g := He.ga K "_law_caught") (st := s_law_caught) (μ := μ1) (P := TP) S1 (drs_noTab hD1) Fc hmc (fun _ _ _ _ _ _ us hl => match us, hl with | [_], _ => rfl) sc_law_caught (.inl rfl) rfl T.g_JudgeError (by decide) rfl rfl (by decide) (by decide) (by decide) (by decide) TB rfl (hr.mono (by decide)) (lamS_by (by rfl))
    (fun cls => cls = .ref (He.ga K "BadShares")) (fun A' outer' s' H0' f' c' H2 E' hr' S2 hE' => ?_) fun cls v H2 hc he S2 hv => ?_))))
  · exact jx_call (X := lamCx (XL P w K mg base c A outer s H0 E) A' outer' s' H0' E' _ f' c') Wf (hr'.mono (by decide)) (takes_of rfl rfl rfl rfl) S2.all (ja_cons (Sy.at (X := lamCx (XL P w K mg base c A outer s H0 E) A' outer' s' H0' E' _ f' c') S2 9) (ja_cons jd_non ja_nil)) rfl (.inl ⟨x, _, rfl, hask, hp, rfl⟩) fun H' x3 => hE' _ H' rfl T.j_BadShares (S2.ex x3)
  · subst hc
    obtain ⟨b, rfl, hb⟩ := hv
    refine ⟨b, .ref _, .ref _, true, rfl, hid_le _ _ hb, fun u h => h, T.s_BadShares, true, rfl, ?_⟩
    show (if (!true) = true then _ else _)
    rw [if_neg (by decide)]
    refine tB_nil ?_
    refine tB_if (tT_not (tT_val (jm_isE (call_isV C) T.n_isinstance T.g_BadShares (jm_caughtP (k := 10) (g := He.ga K "_law_caught") (st := s_law_caught) (μ := μ1) (P := TP) S2 (drs_noTab hD1) Fc hmc (fun _ _ _ _ _ _ us hl => match us, hl with | [_], _ => rfl) sc_law_caught (.inl rfl) rfl T.g_JudgeError (by decide) rfl rfl (by decide) (by decide) (by decide) (by decide) TB rfl (hr.mono (by decide)) (lamS_by (by rfl))
      (fun cls => cls = .ref (He.ga K "BadShares")) (fun A' outer' s' H0' f' c' H3 E' hr' S3 hE' => ?_) fun cls v H3 hc he S3 hv => ?_))))
    · exact jx_call (X := lamCx (XL P w K mg base c A outer s H0 E) A' outer' s' H0' E' _ f' c') Wq (hr'.mono (by decide)) (takes_of rfl rfl rfl rfl) S3.all (ja_cons (Sy.at (X := lamCx (XL P w K mg base c A outer s H0 E) A' outer' s' H0' E' _ f' c') S3 9) (ja_cons (jd_tup ja_nil) ja_nil)) rfl ⟨x, _, rfl, hask, hp, rfl⟩ fun H' x3 => hE' _ H' rfl T.j_BadShares (S3.ex x3)
    · subst hc
      obtain ⟨b, rfl, hb⟩ := hv
      refine ⟨b, .ref _, .ref _, true, rfl, hid_le _ _ hb, fun u h => h, T.s_BadShares, true, rfl, ?_⟩
      show (if (!true) = true then _ else _)
      rw [if_neg (by decide)]
      exact tB_nil (tB_nil (fin _ _ S3))
end K89

set_option maxHeartbeats 4000000
namespace K89
open PySem PySem.Spec PyProof.Rows L2 J Evl LamX
variable {P : Program} {w : World} {K : PySem.W.Frag} {mg : Str → Option Value} {base : Heap}
def oddM : List D := [.none, .int (-1), .int 401, .bool true, .str "1"]
theorem oddM_not : ∀ x ∈ oddM, mOk x = false := by
  intro x hx
  unfold oddM at hx
  simp only [List.mem_cons, List.not_mem_nil, or_false] at hx
  rcases hx with rfl | rfl | rfl | rfl | rfl <;> rfl
theorem law_tail1 (T : Tx K mg) {c TP : Addr} {A : Around} {outer : List Env} {s : Shared} {H0 : Hp} {E : XK} (TB : TabB base mg c TP) (hr : Room 12 (XL P w K mg base c A outer s H0 E).A) {es : List Int} (hE : EsOk es) {a l : Addr} {n : Nat} {μ1 : Mu} (hD1 : Drs a l n μ1) (hn : n < 2 ^ 28)
    {d0 : D} {o2 o3 o5 o6 o7 o8 o9 o10 o11 o12 o13 : Option Sv} {σ1 : L2.St} {H1 : Hp} {D' : Ends} (S1 : Sy K noH [] [some (.dat d0), some (.val (.ref a)), o2, o3, some (.dat (qD (shQ es))), o5, o6, o7, o8, o9, o10, o11, o12, o13] (μ1 ++ [Tq TP]) σ1 H1)
    (fin : ∀ μ2 x σ' H', Drs a l (n + 2) μ2 → Sy K noH [] [some (.dat d0), some (.val (.ref a)), o2, o3, some (.dat (qD (shQ es))), o5, o6, o7, o8, some (.dat x), o10, o11, o12, o13] (μ2 ++ [Tq TP]) σ' H' → D'.nx σ' H') :
    tB (XL P w K mg base c A outer s H0 E) (loopB.drop 8) D' σ1 H1 := by
  have Wpick := fd_law_pick (P := P) (w := w) (base := base) T
  obtain ⟨fdf, okf, Ff, hmf⟩ := ok_first_seats (P := P) (w := w) (base := base) T
  have Wf : Fd (CX P w) P w K mg base 9 "first_seats" ["shares", "many"] _ := fd_mk Ff hmf okf (fun _ _ _ _ _ _ us hl => match us, hl with | [_, _], _ => rfl)
  obtain ⟨fdc, Fc, hmc⟩ := T.f_law_caught
  have C := T.e_BadMany
  have nd := sc_law.nd
  have l5 := hE.2.1
  have lq := shQ_len es
  have S1 : Sy K noH [] [some (.dat d0), some (.val (.ref a)), o2, o3, some (.dat (qD (shQ es))), o5, o6, o7, o8, o9, o10, o11, o12, o13] ([Tq TP] ++ μ1) σ1 H1 := S1.perm (List.perm_append_comm (l₁ := [Tq TP]) (l₂ := μ1))
  refine tB_if (tT_not (tT_val (jm_isE (call_isV C) T.n_isinstance T.g_BadMany (jm_caughtM (k := 10) (g := He.ga K "_law_caught") (st := s_law_caught) (μ := μ1) (P := TP) S1 (drs_noTab hD1) Fc hmc (fun _ _ _ _ _ _ us hl => match us, hl with | [_], _ => rfl) sc_law_caught (.inl rfl) rfl T.g_JudgeError (by decide) rfl rfl (by decide) (by decide) (by decide) (by decide) TB rfl (hr.mono (by decide)) (lamS_by (by rfl))
    (fun cls μ' => cls = .ref (He.ga K "BadMany") ∧ Drs a l (n + 1) μ') (fun A' outer' s' H0' f' c' H2 E' hr' S2 hE' => ?_) fun cls v H2 μ2 hc he S2 hv => ?_))))
  · refine jx_callE (X := lamCx (XL P w K mg base c A outer s H0 E) A' outer' s' H0' E' _ f' c') Wf (hr'.mono (by decide)) (takes_of rfl rfl rfl rfl) (tA_cons (Sx.ev (X := lamCx (XL P w K mg base c A outer s H0 E) A' outer' s' H0' E' _ f' c') S2.sx (Jd.js (Sy.at (X := lamCx (XL P w K mg base c A outer s H0 E) A' outer' s' H0' E' _ f' c') S2 4)) fun v1 H3 S3 => ?_))
    have S3 : Sx K noH [] [some (.dat d0), some (.val (.ref a)), o2, o3, some (.dat (qD (shQ es))), o5, o6, o7, o8, o9, o10, o11, o12, o13] (μ1 ++ [Tq TP]) σ1 ([] ++ [.dat (qD (shQ es))]) ([] ++ [v1]) H3 := S3.perm (List.perm_append_comm (l₁ := μ1) (l₂ := [Tq TP]))
    refine tA_cons (Sx.call (X := lamCx (XL P w K mg base c A outer s H0 E) A' outer' s' H0' E' _ f' c') (μ1 := μ1) (μ2 := [Tq TP]) S3 Wpick (hr'.mono (by decide)) (jsa_cons (Sy.atV (X := lamCx (XL P w K mg base c A outer s H0 E) A' outer' s' H0' E' _ f' c') S3.base 1).js (jsa_cons (Jd.js (d := .list oddM) (jd_lst (ja_cons jd_non (ja_cons (jd_neg jd_int) (ja_cons jd_int (ja_cons jd_bl (ja_cons jd_str ja_nil))))))) jsa_nil)) rfl ⟨a, l, n, oddM, rfl, by decide, by decide, by omega, hD1⟩ fun v2 s2 μ2 H4 hR S4 => tA_nil ?_)
    obtain ⟨x, rfl, hx, st⟩ := sP hR
    exact ⟨adr [] (μ2 ++ [Tq TP]), [qD (shQ es), x], rfl, S4.1.all, S4.dats (ds := [qD (shQ es), x]), .inr ⟨_, .inr ⟨_, x, rfl, hE.ask, hE.isP, oddM_not x hx, rfl⟩, fun H5 x5 => hE' _ H5 μ2 ⟨rfl, st _ _ _ hD1⟩ T.j_BadMany ((S4.base.perm (List.perm_append_comm (l₁ := [Tq TP]) (l₂ := μ2))).ex x5)⟩⟩
  · obtain ⟨hc, hD2⟩ := hc
    subst hc
    obtain ⟨b, rfl, hb⟩ := hv
    refine ⟨b, .ref _, .ref _, true, rfl, hid_le _ _ hb, fun u h => h, T.s_BadMany, true, rfl, ?_⟩
    show (if (!true) = true then _ else _)
    rw [if_neg (by decide)]
    refine tB_nil ?_
    have S2 : Sy K noH [] [some (.dat d0), some (.val (.ref a)), o2, o3, some (.dat (qD (shQ es))), o5, o6, o7, o8, o9, o10, o11, o12, o13] (μ2 ++ [Tq TP]) σ1 H2 := S2.perm (List.perm_append_comm (l₁ := μ2) (l₂ := [Tq TP]))
    have ol : (odL (shQ es)).length = 6 := rfl
    refine sy_setE 9 (jm_call (μ1 := μ2) (μ2 := [Tq TP]) S2 Wpick (hr.mono (by decide)) (jsa_cons (S2.atV 1).js (jsa_cons (Jd.js (d := .list (odL (shQ es))) (jd_lst (hz := by rw [ol]; decide) (ja_cons jd_non (ja_cons (jd_tup ja_nil) (ja_cons (jd_lstOf T.n_list (S2.at 4) (.inr rfl)) (ja_cons (jd_cat (S2.at 4) (jd_tup (ja_cons jd_q ja_nil)) (by simp; omega))
      (ja_cons (jd_tup (ja_cons jd_q (ja_cons jd_q ja_nil)))
      (ja_cons (jd_tup (ja_cons jd_q ja_nil)) ja_nil)))))))) jsa_nil)) rfl ⟨a, l, n + 1, odL (shQ es), rfl, by rw [ol]; decide, by rw [ol]; decide, by omega, hD2⟩ fun v s' μ3 H3 hR S3 hv => ?_) nd
    obtain ⟨x, rfl, hx, st1⟩ := sP hR
    have hD3 := st1 _ _ _ hD2
    obtain ⟨hp, hask⟩ := odL_not hE x hx
    have S3 := S3.set 9 (s := .dat x) (v := v) hv
    have S3 : Sy K noH [] [some (.dat d0), some (.val (.ref a)), o2, o3, some (.dat (qD (shQ es))), o5, o6, o7, o8, some (.dat x), o10, o11, o12, o13] ([Tq TP] ++ μ3) _ H3 := S3.perm (List.perm_append_comm (l₁ := [Tq TP]) (l₂ := μ3))
    exact law_tail2 T TB hr hD3 hp hask S3 fun σ' H' S4 => fin μ3 x σ' H' hD3 (S4.perm (List.perm_append_comm (l₁ := μ3) (l₂ := [Tq TP])))
end K89

set_option maxHeartbeats 4000000
namespace K89
open PySem PySem.Spec PyProof.Rows L2 J Evl LamX
variable {P : Program} {w : World} {K : PySem.W.Frag} {mg : Str → Option Value} {base : Heap}
theorem vok_any {d : D} (h : dIsT d = false) : VOk d := fun l e => by rw [e] at h; cases h
theorem sum_gAt {es : List Int} (h : EsOk es) (n : Nat) : (gAt (shQ es) n).sum = n := (gd_sum (gAt_gd h n)).1
theorem adr_sub {M0 : List Addr} {μ μ' : Mu} (h : ∀ p ∈ μ', p ∈ μ) : ∀ b ∈ adr M0 μ', b ∈ adr M0 μ := fun b hb => by
  rcases List.mem_append.mp hb with z | z
  · obtain ⟨p, hp, e⟩ := List.mem_map.mp z
    exact List.mem_append_left _ (List.mem_map.mpr ⟨p, h p hp, e⟩)
  · exact List.mem_append_right _ z
/-- from the sixth statement of the loop on -/
theorem law_mid (T : Tx K mg) {c TP : Addr} {A : Around} {outer : List Env} {s : Shared} {H0 : Hp} {E : XK} (TB : TabB base mg c TP) (hr : Room 12 (XL P w K mg base c A outer s H0 E).A) {es : List Int} (hE : EsOk es) {m : Nat} (hm1 : 1 ≤ m) (hm6 : m ≤ 60) {a l : Addr} {n : Nat} {μ1 : Mu} (hD1 : Drs a l n μ1) (hn : n < 2 ^ 27)
    {d0 : D} {o2 o3 o6 o7 o8 o9 o11 o12 o13 : Option Sv} {σ1 : L2.St} {H1 : Hp} {D' : Ends} (S1 : Sy K noH [] [some (.dat d0), some (.val (.ref a)), o2, o3, some (.dat (qD (shQ es))), some (.dat (.int (m : Int))), o6, o7, o8, o9, some (.dat (.tuple ((fstS es m).map PyData.int))), o11, o12, o13] (μ1 ++ [Tq TP]) σ1 H1)
    (fin : ∀ μ2 ρ' σ' H', Drs a l (n + 100) μ2 → (∃ o2 o3 o4 o5 o6 o7 o8 o9 o10 o11 o12 o13, ρ' = [some (.dat d0), some (.val (.ref a)), o2, o3, o4, o5, o6, o7, o8, o9, o10, o11, o12, o13]) → Sy K noH [] ρ' (μ2 ++ [Tq TP]) σ' H' → D'.nx σ' H') :
    tB (XL P w K mg base c A outer s H0 E) (loopB.drop 5) D' σ1 H1 := by
  have Wdraw := fd_law_draw (P := P) (w := w) (base := base) T
  have Wled := fd_law_led (P := P) (w := w) (base := base) T
  have Wch := fd_law_changed (P := P) (w := w) (base := base) T
  have Wkeep := fd_law_keeps (P := P) (w := w) (base := base) T
  have Wtruth := fd_law_is_truth (P := P) (w := w) (base := base) T
  obtain ⟨fdq, okq, Fq, hmq⟩ := ok_is_quota (P := P) (w := w) (base := base) T
  have Wq : Fd (CX P w) P w K mg base 7 "is_quota" ["shares", "value"] _ := fd_mk Fq hmq okq (fun _ _ _ _ _ _ us hl => match us, hl with | [_, _], _ => rfl)
  have kbq : KBn K fdq ["shares", "value"] 0 ["value", "shares"] (fun us ws => us ++ ws.reverse) (fun vs zs => vs ++ zs.reverse) := kbn_rev Fq fun _ _ _ _ _ _ ws h2 => match ws, h2 with | [_, _], _ => rfl
  have nd := sc_law.nd
  have hu := hr.units
  have l5 := hE.2.1
  have l1 := hE.1
  have lq := shQ_len es
  have fl := fstS_len es m
  generalize hT : (fstS es m).map PyData.int = told at *
  have tl : told.length = m := by rw [← hT, List.length_map, fl]
  -- the list of values
  refine sy_setE 7 (tW_lst (n := 0) (tA_cons (S1.sx.ev (S1.at 10).js fun v1 H2 S2 => tA_cons (S2.ev (Jd.js (jd_tup ja_nil)) fun v2 H3 S3 => tA_cons (S3.ev (Jd.js (jd_lstOf T.n_list (S3.base.at 10) (.inr rfl))) fun v3 H4 S4 => tA_cons (S4.ev (Jd.js (jd_revT (S4.base.at 10))) fun v4 H5 S5 =>
    tA_cons (Sx.call (μ1 := μ1) (μ2 := [Tq TP]) S5 Wled (hr.mono (by decide)) (jsa_cons (S5.base.atV 1).js (jsa_cons (S5.base.at 4).js (jsa_cons (S5.base.at 5).js jsa_nil))) rfl ⟨a, l, n, es, m, rfl, hE, by omega, by omega, hD1⟩ fun v5 s5 μ2 H6 hR S6 => ?_))))))) nd
  obtain ⟨_, es', m', fs, e1, rfl, hfl, hfx, st1⟩ := hR
  simp only [List.cons.injEq, Sv.dat.injEq, PyData.int.injEq, and_true] at e1
  have hfl2 : fs.length = m := by omega
  have hD2 := st1 _ _ _ hD1
  refine tA_cons (S6.ev (Jd.js (jd_tup (ja_cons (jd_len T.n_len (S6.base.at 4) (.inl rfl)) ja_nil))) fun v6 H7 S7 => tA_cons (S7.ev (Jd.js (jd_tup (ja_cons (jd_neg jd_int) ja_nil))) fun v7 H8 S8 => tA_cons (S8.ev (Jd.js (jd_tup (ja_cons jd_bl ja_nil))) fun v8 H9 S9 => tA_cons (S9.ev (Jd.js jd_non) fun v9 H10 S10 => tA_cons (S10.ev (Jd.js jd_str) fun v10 H11 S11 => tA_cons ?_)))))
  obtain ⟨S12, back⟩ := S11.across
  refine leW (pe_callTy call_tuple_of rfl T.n_tuple boot_tuple (pa_cons pe_W pa_nil rfl) (by decide) (by decide) rfl) (tW_lc (lcE_tree S12 (jw_rng1 T.n_range jd_int (by decide)) (fun d ρ => ρ.set 13 (some (.dat d))) (js := [13]) (own := [("lap", 13)]) (by simp) (fun i acc μ' => ∃ μD, i ≤ 5 ∧ acc.length = i ∧ Drs a l (n + m' + i) μD ∧ μ' = μD ++ [Tq TP]) ⟨μ2, by decide, rfl, hD2, rfl⟩ ?_ ?_ ?_ ?_) (blkOk_by (by rfl)) rfl nd)
  · rintro i acc μ' ⟨μD, h1, h2, _, _⟩
    omega
  · rintro _ d ⟨s, H, C, cl, fp, rfl⟩ _
    exact jg_name 13 nd
  · rintro i d acc μ' _ B' M' σ' H' Q hd ⟨μD, h1, h2, h3, rfl⟩ ⟨s, H, C, cl, fp, rfl⟩ S13 hQ
    have hi := (rgD_get hd).1
    have hi5 : i < 5 := hi
    refine jm_call (μ1 := μD) (μ2 := [Tq TP]) S13 Wdraw (hr.mono (by decide)) (jsa_cons (S13.atV 1).js (jsa_cons (jd_len T.n_len (S13.at 4) (.inl rfl)).js jsa_nil)) rfl (preD h3 (by simp; omega) (by simp; omega) (by omega)) fun v' s' μ' H14 hR S14 hv => ?_
    obtain ⟨z, rfl, z0, z1, st⟩ := sD hR
    exact hQ v' (.int z) _ H14 ⟨μ', by omega, by simp [h2], (st _ _ _ h3).mono (by omega), rfl⟩ S14 hv
  · rintro c5 acc μ' H13 ⟨μ3, _, hacc, hD3, rfl⟩ S13
    have hacc : acc.length = 5 := hacc
    obtain ⟨xs5, g1, g2⟩ := S13.own (i := 0) rfl
    refine ⟨c5, xs5, rfl, .inl ⟨.inl (.inl g1), fun t ht => ?_⟩⟩
    have S14 := back (S13.ex (Ex.new (o := .tup xs5) ht))
    have g2' := dats_all (hid_sub fun b hb => hb) g2
    have S15 := (S14.push (s := .dat (.tuple acc)) (v := .ref t) (.tup (SqT.of (S13.all.newEx ht)) (g2'.ex (hid_ex (Ex.new ht)))))
    refine tA_nil ⟨by simp, fun sm hsm => ?_⟩
    have S16 := Sx.lst (ts := []) (vs := []) S15 rfl hsm
    let vsL : List D := [PyData.tuple told, PyData.tuple [], PyData.list told, PyData.tuple told.reverse, PyData.tuple fs, PyData.tuple [PyData.int (((shQ es).map dq).length : Nat)], PyData.tuple [PyData.int (-1)], PyData.tuple [PyData.bool true], PyData.none, PyData.str "0", PyData.tuple acc]
    have S17 : Sy K noH [] [some (.dat d0), some (.val (.ref a)), o2, o3, some (.dat (qD (shQ es))), some (.dat (.int (m : Int))), o6, o7, o8, o9, some (.dat (.tuple told)), o11, o12, o13] ((sm, .lst (vsL.map .dat)) :: (c5, .lst (acc.map .dat)) :: (μ3 ++ [Tq TP])) σ1 _ := S16.base
    have hvL : ∀ x ∈ vsL, VOk x := fun x hx => by
      simp only [vsL, List.mem_cons, List.not_mem_nil, or_false] at hx
      rcases hx with rfl | rfl | rfl | rfl | rfl | rfl | rfl | rfl | rfl | rfl | rfl
      · exact vok_tup (by omega)
      · exact vok_tup (by simp)
      · exact vok_any rfl
      · exact vok_tup (by rw [List.length_reverse]; omega)
      · exact vok_tup (by omega)
      · exact vok_tup (by simp)
      · exact vok_tup (by simp)
      · exact vok_tup (by simp)
      · exact vok_any rfl
      · exact vok_any rfl
      · exact vok_tup (by omega)
    have hvl : vsL.length = 11 := rfl
    generalize vsL = vsL at *
    have S18 : Sy K noH [] [some (.dat d0), some (.val (.ref a)), o2, o3, some (.dat (qD (shQ es))), some (.dat (.int (m : Int))), o6, some (.val (.ref sm)), o8, o9, some (.dat (.tuple told)), o11, o12, o13] (μ3 ++ ([Tq TP] ++ [(sm, .lst (vsL.map .dat)), (c5, .lst (acc.map .dat))])) _ _ := (S17.set 7 (s := .val (.ref sm)) (v := .ref sm) rfl).perm (by
      rw [← List.append_assoc]
      exact List.perm_append_comm (l₁ := μ3 ++ [Tq TP]) (l₂ := [_, _]))
    -- all values are judged alike
    refine sy_forE (B := noH) (M0 := []) (ρ := [some (.dat d0), some (.val (.ref a)), o2, o3, some (.dat (qD (shQ es))), some (.dat (.int (m : Int))), o6, some (.val (.ref sm)), o8, o9, some (.dat (.tuple told)), o11, o12, o13]) (fun μ' ds => ∃ μ4, Drs a l (n + m' + 8) μ4 ∧ μ' = μ4 ++ [Tq TP] ∧ ds.length ≤ 16 ∧ ∀ d ∈ ds, VOk d) (fun R hR => ?_) (fun d ρ => ρ.set 8 (some (.dat d))) (js := [8]) (fun _ _ d ρ' _ _ => jg_name 8 nd)
      (fun μ0 ds i ρ' μ' => μ' = μ0 ∧ ∃ o8 o12, ρ' = [some (.dat d0), some (.val (.ref a)), o2, o3, some (.dat (qD (shQ es))), some (.dat (.int (m : Int))), o6, some (.val (.ref sm)), o8, o9, some (.dat (.tuple told)), o11, o12, o13]) (fun _ _ _ => ⟨rfl, _, _, rfl⟩) ?_ ?_ PassesOwn.never rfl
    · refine leI (pi_list pe_W) (leW (pe_op op_cat pe_W pe_W) (S18.evV (S18.atV 7) fun H19 S19 x19 => jm_call (μ1 := μ3) S19 Wch (hr.mono (by decide)) (jsa_cons (S19.atV 1).js (jsa_cons (S19.at 10).js (jsa_cons (jd_len T.n_len (S19.at 4) (.inl rfl)).js jsa_nil))) rfl ⟨a, l, n + m' + 5, told, ((shQ es).map dq).length, rfl, by omega, by omega, by simp; omega, by simp; omega, by omega, hD3⟩ fun v20 s20 μ20 H20 hR20 S20 hv20 => ?_))
      obtain ⟨c6, xs6, μ4, rfl, rfl, h6l, h6v, st4⟩ := hR20
      have hv20 : v20 = .ref c6 := hv20
      subst hv20
      have hD4 := st4 _ _ _ hD3
      obtain ⟨ws6, p1, p2⟩ := S20.own (i := 0) rfl
      have hi7 : ((c6, Mo.lst (xs6.map .dat)) :: μ4 ++ ([Tq TP] ++ [(sm, Mo.lst (vsL.map .dat)), (c5, Mo.lst (acc.map .dat))]))[μ4.length + 2]? = some (sm, .lst (vsL.map .dat)) := by simp
      obtain ⟨ws7, p3, p4⟩ := S20.own hi7
      have y1 := dats_all (Ex.refl _) p2
      have y2 := dats_all (Ex.refl _) p4
      have z1 := y1.len
      have z2 := y2.len
      refine ⟨sm, c6, ws7, ws6, rfl, rfl, p3, p1, sz_of (by omega), fun t ht => ⟨t, rfl, ⟨_, .inl (.inl upd_same)⟩, ?_⟩⟩
      have S21 := S20.ex (Ex.new (o := .lst (ws7 ++ ws6)) ht)
      have y12 := (y2.append y1).ex (hid_ex (M := adr [] ((c6, Mo.lst (xs6.map .dat)) :: μ4 ++ ([Tq TP] ++ [(sm, Mo.lst (vsL.map .dat)), (c5, Mo.lst (acc.map .dat))]))) (Ex.new (o := .lst (ws7 ++ ws6)) ht))
      have S22 : Sy K noH [] _ ((sm, Mo.lst (vsL.map .dat)) :: (c5, Mo.lst (acc.map .dat)) :: (c6, Mo.lst (xs6.map .dat)) :: (μ4 ++ [Tq TP])) _ _ := S21.perm (by
        show List.Perm _ ((c6, Mo.lst (xs6.map .dat)) :: (μ4 ++ ([Tq TP] ++ [(sm, Mo.lst (vsL.map .dat)), (c5, Mo.lst (acc.map .dat))])))
        rw [← List.append_assoc]
        exact (List.perm_append_comm (l₁ := [(sm, Mo.lst (vsL.map .dat)), (c5, Mo.lst (acc.map .dat))]) (l₂ := (c6, Mo.lst (xs6.map .dat)) :: (μ4 ++ [Tq TP]))))
      have S23 := S22.drop1.drop1.drop1
      have sub : ∀ b ∈ adr [] (μ4 ++ [Tq TP]), b ∈ adr [] ((c6, Mo.lst (xs6.map .dat)) :: μ4 ++ ([Tq TP] ++ [(sm, Mo.lst (vsL.map .dat)), (c5, Mo.lst (acc.map .dat))])) := adr_sub fun p hp => by
        rcases List.mem_append.mp hp with hp | hp
        · exact List.mem_append_left _ (List.mem_cons_of_mem _ hp)
        · exact List.mem_append_right _ (List.mem_append_left _ hp)
      have tn : t ∉ adr [] (μ4 ++ [Tq TP]) := fun z => S20.all.out ht (sub t z)
      refine hR _ _ (μ4 ++ [Tq TP]) (vsL ++ xs6) ⟨μ4, hD4.mono (by omega), rfl, by simp; omega, fun d hd => ?_⟩ S23 ⟨fun H4 => SqL K H4 t (ws7 ++ ws6), _, by rw [← (y2.append y1).len]; exact walk_list, fun H4 g => SqL.of (g _ _ (by
        rw [hid_out tn]; exact upd_same)), yl_at (y12.ex (hid_sub sub))⟩
      rcases List.mem_append.mp hd with hd | hd
      · exact hvL d hd
      · exact h6v d hd
    · rintro μ0 ds i d ρ' μ' σ' H' B' ⟨μ4, hD4, rfl, hdl, hdv⟩ hd ⟨rfl, o8, o12, rfl⟩ hB S24
      have S24 : Sy K B' [] [some (.dat d0), some (.val (.ref a)), o2, o3, some (.dat (qD (shQ es))), some (.dat (.int (m : Int))), o6, some (.val (.ref sm)), some (.dat d), o9, some (.dat (.tuple told)), o11, o12, o13] (μ4 ++ [Tq TP]) σ' H' := S24
      have hv := hdv d (List.mem_of_getElem? hd)
      refine sy_set 12 S24 (d := .bool (quotaB (shQ es) d)) (jd_call Wkeep (hr.mono (by decide)) (ja_cons (S24.at 4) (ja_cons (S24.at 8) ja_nil)) rfl ⟨_, d, rfl, hE.sh, hv, rfl⟩) (fun σ25 H25 S25 => ?_) nd
      have S25 : Sy K B' [] [some (.dat d0), some (.val (.ref a)), o2, o3, some (.dat (qD (shQ es))), some (.dat (.int (m : Int))), o6, some (.val (.ref sm)), some (.dat d), o9, some (.dat (.tuple told)), o11, some (.dat (.bool (quotaB (shQ es) d))), o13] (μ4 ++ [Tq TP]) σ25 H25 := S25
      refine sy_when (b := !(quotaB (shQ es) d == quotaB (shQ es) d) || !PyData.eqv (.bool (quotaB (shQ es) d)) (.bool (quotaB (shQ es) d))) S25 (jt_or (jt_not (jt_val (jd_call Wtruth (hr.mono (by decide)) (ja_cons (jd_callX Wq (hr.mono (by decide)) (ja_cons (S25.at 4) (ja_cons (S25.at 8) ja_nil)) rfl ⟨_, d, rfl, hE.ask, hE.isP, hE.sh, hv, rfl⟩) (ja_cons (S25.at 12) ja_nil)) rfl ⟨_, _, rfl, rfl⟩))) fun _ =>
        jt_ne hu (jd_callXK2 okq hmq Fq.kp kbq (hr.mono (by decide)) (S25.at 8) (S25.at 4) ⟨_, d, rfl, hE.ask, hE.isP, hE.sh, hv, rfl⟩) (S25.at 12) rfl rfl) (fun h => ?_) fun _ H26 S26 => tB_nil ⟨_, _, ⟨rfl, _, _, rfl⟩, S26⟩
      cases quotaB (shQ es) d <;> simp [PyData.eqv] at h
    · rintro μ0 ds ρ' μ' σ' H' ⟨μ4, hD4, rfl, hdl, hdv⟩ ⟨rfl, o8, o12, rfl⟩ S24
      have S24 : Sy K noH [] [some (.dat d0), some (.val (.ref a)), o2, o3, some (.dat (qD (shQ es))), some (.dat (.int (m : Int))), o6, some (.val (.ref sm)), o8, o9, some (.dat (.tuple told)), o11, o12, o13] (μ4 ++ [Tq TP]) σ' H' := S24
      have hq : quotaB (shQ es) (.tuple told) = true := by rw [← hT]; exact fst_quota hE m
      refine sy_when (b := !decide (true = true)) S24 (jt_isnB (Jd.is (jd_callX Wq (hr.mono (by decide)) (ja_cons (S24.at 4) (ja_cons (S24.at 10) ja_nil)) rfl ⟨_, _, rfl, hE.ask, hE.isP, hE.sh, vok_tup (by omega), rfl⟩) (by rw [hq])) jd_bl) (fun h => by cases h) fun _ H25 S25 => ?_
      exact law_tail1 T TB hr hE hD4 (by omega) S25 fun μ5 x σ'' H'' h5 S5 => fin μ5 _ σ'' H'' (h5.mono (by omega)) ⟨_, _, _, _, _, _, _, _, _, _, _, _, rfl⟩ S5
end K89

set_option maxHeartbeats 4000000
namespace K89
open PySem PySem.Spec PyProof.Rows L2 J Evl LamX
variable {P : Program} {w : World} {K : PySem.W.Frag} {mg : Str → Option Value} {base : Heap}
theorem iS_gAt (es : List Int) : iS (List.replicate (shQ es).length (0 : Int)) = iS (gAt (shQ es) 0) := rfl
theorem es678 : EsOk [6, 7, 8] := ⟨by decide, by decide, by decide⟩
theorem sh678 : shQ [6, 7, 8] = [(2, 7), (1, 3), (8, 21)] := by decide
theorem ok_law_k89 (T : Tx K mg) {fd : FuncData} (F : FnP K "law" "law" s_law (He.ga K "law") fd) (TP : Addr) (TBh : ∀ c, fd.code = .ref c → TabB base mg c TP) : FnOk P w K mg base CX0 13 (He.ga K "law") fd ["script"] (spLaw K TP 63) := by
  have Wbegun := fd_law_begun (P := P) (w := w) (base := base) T
  have Wparts := fd_law_st_parts (P := P) (w := w) (base := base) T
  have Wdraw := fd_law_draw (P := P) (w := w) (base := base) T
  have Wpick := fd_law_pick (P := P) (w := w) (base := base) T
  have Wsame := fd_law_same (P := P) (w := w) (base := base) T
  have Wnext := fd_law_st_next (P := P) (w := w) (base := base) T
  have Wkeep := fd_law_keeps (P := P) (w := w) (base := base) T
  obtain ⟨fdf, okf, Ff, hmf⟩ := ok_first_seats (P := P) (w := w) (base := base) T
  have Wf : Fd (CX P w) P w K mg base 9 "first_seats" ["shares", "many"] _ := fd_mk Ff hmf okf (fun _ _ _ _ _ _ us hl => match us, hl with | [_, _], _ => rfl)
  have kbf : KBn K fdf ["shares", "many"] 0 ["many", "shares"] (fun us ws => us ++ ws.reverse) (fun vs zs => vs ++ zs.reverse) := kbn_rev Ff fun _ _ _ _ _ _ ws h2 => match ws, h2 with | [_, _], _ => rfl
  obtain ⟨fdq, okq, Fq, hmq⟩ := ok_is_quota (P := P) (w := w) (base := base) T
  have Wq : Fd (CX P w) P w K mg base 7 "is_quota" ["shares", "value"] _ := fd_mk Fq hmq okq (fun _ _ _ _ _ _ us hl => match us, hl with | [_, _], _ => rfl)
  have nd := sc_law.nd
  refine ok_law F sc_law TP TBh fun c A outer s H E sa ns D' TB hr hns S k => ?_
  have hu := hr.units
  refine sy_setE 1 (jm_call (μ1 := []) (μ2 := [Tq TP]) S Wbegun (hr.mono (by decide)) (jsa_cons (S.at 0).js jsa_nil) rfl ⟨ns, rfl, by omega, rfl⟩ fun v s' μ1 H1 hR S1 hv => ?_) nd
  obtain ⟨a, l, gs, cs, rfl, hg, rfl⟩ := hR
  have hv : v = .ref a := hv
  subst hv
  have S1 := S1.set 1 (s := .val (.ref a)) (v := .ref a) rfl
  have S1 : Sy K noH [] [some (.dat (.list (ns.map PyData.int))), some (.val (.ref a)), none, none, none, none, none, none, none, none, none, none, none, none] (Dr a l gs cs 0 0 ++ [Tq TP]) _ H1 := S1
  have hn0 : ((2 : Int) + (if 4 < (((ns.map PyData.int).length : Nat) : Int) then 4 else (((ns.map PyData.int).length : Nat) : Int))) ≤ 6 := by split <;> omega
  have hn1 : 0 ≤ ((2 : Int) + (if 4 < (((ns.map PyData.int).length : Nat) : Int) then 4 else (((ns.map PyData.int).length : Nat) : Int))) := by split <;> omega
  refine sy_forR S1 T.n_range (jd_add jd_int (jd_min2 rfl T.n_min (jd_len T.n_len (S1.at 0) (.inr rfl)) jd_int)) (by omega) (fun d ρ => ρ.set 2 (some (.dat d))) (js := [2]) (fun d ρ' => jg_name 2 nd)
    (fun i ρ' μ' => ∃ μD, Drs a l (200 * i) μD ∧ μ' = μD ++ [Tq TP] ∧ ∃ o2 o3 o4 o5 o6 o7 o8 o9 o10 o11 o12 o13, ρ' = [some (.dat (.list (ns.map PyData.int))), some (.val (.ref a)), o2, o3, o4, o5, o6, o7, o8, o9, o10, o11, o12, o13]) ⟨_, ⟨gs, cs, 0, 0, hg, by decide, by simp, rfl⟩, rfl, _, _, _, _, _, _, _, _, _, _, _, _, rfl⟩ ?_ ?_ PassesOwn.never rfl
  · rintro i ρ' μ' σ' H' hi ⟨μD, hD, rfl, o2, o3, o4, o5, o6, o7, o8, o9, o10, o11, o12, o13, rfl⟩ S2
    have hi7 : i < 6 := by omega
    have S2 : Sy K noH [] [some (.dat (.list (ns.map PyData.int))), some (.val (.ref a)), some (.dat (.int i)), o3, o4, o5, o6, o7, o8, o9, o10, o11, o12, o13] (μD ++ [Tq TP]) σ' H' := S2
    -- shares
    refine sy_setE 4 (jm_call (μ1 := μD) (μ2 := [Tq TP]) S2 Wparts (hr.mono (by decide)) (jsa_cons (S2.atV 1).js jsa_nil) rfl ⟨a, l, _, rfl, by omega, hD⟩ fun v s' μ3 H3 hR S3 hv => ?_) nd
    obtain ⟨es, hE, rfl, st3⟩ := hR
    have S3 := S3.set 4 (s := .dat (qD (shQ es))) (v := v) hv
    have hD3 := st3 _ _ _ hD
    have S3 : Sy K noH [] [some (.dat (.list (ns.map PyData.int))), some (.val (.ref a)), some (.dat (.int i)), o3, some (.dat (qD (shQ es))), o5, o6, o7, o8, o9, o10, o11, o12, o13] (μ3 ++ [Tq TP]) (σ'.set 4 (some v)) H3 := S3
    generalize σ'.set 4 (some v) = σ3 at S3
    have l5 := hE.2.1
    have l1 := hE.1
    have lq := shQ_len es
    -- how many
    refine sy_setE 5 (leW (pe_op op_add pe_W pe_W) (S3.ev jd_int fun v0 H4 S4 x4 p0 => jm_callE Wdraw (hr.mono (by decide)) (tA_cons (S4.evV (S4.atV 1) fun H5 S5 _ => tA_cons
      (jm_call (μ1 := μ3) (μ2 := [Tq TP]) S5 Wpick (hr.mono (by decide)) (jsa_cons (S5.atV 1).js (jsa_cons (Jd.js (jd_lst (ja_cons jd_int (ja_cons jd_int (ja_cons jd_int ja_nil))))) jsa_nil)) rfl ⟨a, l, _, _, rfl, by decide, by decide, by omega, hD3⟩ fun w6 s6 μ6 H6 hR6 S6 hv6 => tA_nil ?_))))) nd
    obtain ⟨x, rfl, hx, st6⟩ := sP hR6
    obtain ⟨room, rfl, r0, r60⟩ : ∃ room : Int, x = .int room ∧ 1 ≤ room ∧ room ≤ 60 := by
      simp only [List.mem_cons, List.not_mem_nil, or_false] at hx
      rcases hx with rfl | rfl | rfl <;> exact ⟨_, rfl, by decide, by decide⟩
    have hD6 := st6 _ _ _ hD3
    refine callM (μ1 := μ6) (μ2 := [Tq TP]) (E := E0) S6 (ss := [.val (.ref a), .dat (.int room)]) (.cons rfl (.cons hv6 .nil)) rfl (preD hD6 (by omega) (by omega) (by omega)) (fun w7 s7 μ7 H7 hR7 S7 hv7 => ?_) fun _ _ h => h.elim
    obtain ⟨z, rfl, z0, z1, st7⟩ := sD hR7
    have hD7 := st7 _ _ _ hD6
    refine ⟨1, z, dInt p0, dInt hv7, ?_⟩
    obtain ⟨m, hm⟩ : ∃ m : Nat, 1 + z = (m : Int) := ⟨(1 + z).toNat, by omega⟩
    have S7 := S7.set 5 (s := .dat (.int (m : Int))) (v := .int (1 + z)) (by rw [hm]; exact Dp.int _)
    have S7 : Sy K noH [] [some (.dat (.list (ns.map PyData.int))), some (.val (.ref a)), some (.dat (.int i)), o3, some (.dat (qD (shQ es))), some (.dat (.int (m : Int))), o6, o7, o8, o9, o10, o11, o12, o13] (μ7 ++ [Tq TP]) _ H7 := S7
    -- told, given
    refine sy_parE 10 11 (tA_cons (S7.ev (jd_callX Wf (hr.mono (by decide)) (ja_cons (S7.at 4) (ja_cons (S7.at 5) ja_nil)) rfl ⟨es, m, rfl, hE, by omega, rfl⟩) fun v8 H8 S8 x8 p8 => tA_cons (Sx.evN (S8.sx.push (s := .dat (.tuple ((fstS es m).map PyData.int))) (v := v8) p8) (jn_rep (ja_cons jd_int ja_nil) (jd_len T.n_len (S8.at 4) (.inl rfl)) (by omega) (by simp; omega)) fun g H9 S9 => tA_nil ⟨_, _, rfl, ?_⟩))) rfl nd (by decide) rfl
    have hv9 := S9.vals
    cases hv9 with | cons q1 _ =>
    have S10 := (S9.base.set 10 (s := .dat (.tuple ((fstS es m).map PyData.int))) (v := v8) q1).set 11 (s := .val (.ref g)) (v := .ref g) rfl
    rw [rep0, List.length_map, Int.toNat_natCast] at S10
    have S10 : Sy K noH [] [some (.dat (.list (ns.map PyData.int))), some (.val (.ref a)), some (.dat (.int i)), o3, some (.dat (qD (shQ es))), some (.dat (.int (m : Int))), o6, o7, o8, o9, some (.dat (.tuple ((fstS es m).map PyData.int))), some (.val (.ref g)), o12, o13] ((g, .lst (iS (gAt (shQ es) 0))) :: (μ7 ++ [Tq TP])) _ H9 := S10
    have fl : ((fstS es m).map PyData.int).length = m := by rw [List.length_map, fstS_len]
    -- each seat is the law's own
    refine sy_for S10 (jw_tup (S10.at 10)) (fun d ρ => ρ.set 6 (some (.dat d))) (js := [6]) (fun d ρ' _ => jg_name 6 nd)
      (fun j ρ' μ' => μ' = (g, .lst (iS (gAt (shQ es) j))) :: (μ7 ++ [Tq TP]) ∧ ∃ o6, ρ' = [some (.dat (.list (ns.map PyData.int))), some (.val (.ref a)), some (.dat (.int i)), o3, some (.dat (qD (shQ es))), some (.dat (.int (m : Int))), o6, o7, o8, o9, some (.dat (.tuple ((fstS es m).map PyData.int))), some (.val (.ref g)), o12, o13]) ⟨rfl, _, rfl⟩ ?_ ?_ PassesOwn.never rfl
    · rintro j d ρ' μ' σ' H' B' hd ⟨rfl, o6, rfl⟩ hB S11
      have hj : j < m := by have := (List.getElem?_eq_some_iff.mp hd).1; omega
      rw [fst_at hj] at hd
      cases hd
      have S11 : Sy K B' [] [some (.dat (.list (ns.map PyData.int))), some (.val (.ref a)), some (.dat (.int i)), o3, some (.dat (qD (shQ es))), some (.dat (.int (m : Int))), some (.dat (.int ((sAt (shQ es) j : Nat) : Int))), o7, o8, o9, some (.dat (.tuple ((fstS es m).map PyData.int))), some (.val (.ref g)), o12, o13] ((g, .lst (iS (gAt (shQ es) j))) :: (μ7 ++ [Tq TP])) σ' H' := S11
      obtain ⟨bb, gg, hb1, hb2, hb3, hb4⟩ := sAt_best hE j
      have hp := (List.getElem?_eq_some_iff.mp hb3).1
      have gsum := sum_gAt hE j
      refine sy_when (b := !true) S11 (jt_not (jt_val (S11.lookL (i := 0) rfl (jd_call Wsame (hr.mono (by decide)) (ja_cons ((S11.frz 11 0 rfl rfl).at 6) (ja_cons (Jd.is (jd_call Wnext (hr.mono (by decide)) (ja_cons ((S11.frz 11 0 rfl rfl).at 4) (ja_cons ((S11.frz 11 0 rfl rfl).at 11) ja_nil)) rfl ⟨shQ es, gAt (shQ es) j, rfl, hE.sh, gv_at hE (by omega), by rw [gAt_len], by omega, by omega, rfl⟩) (by rw [gsum, hb1]; exact congrArg PyData.int hb2)) ja_nil)) rfl ⟨.int ((sAt (shQ es) j : Nat) : Int), rfl, lay_int, by show 1 ≤ 80000; omega, rfl⟩) rfl))) (fun h => by cases h) fun _ H12 S12 => ?_
      refine sy_setIx (i := 0) (n := sAt (shQ es) j) (s := .dat (.int (gg + 1))) S12 (jd_add (js_ixM (i := 0) (s := .dat (.int gg)) S12 (S12.atV 11).js (S12.at 6) rfl rfl (iS_at hb3)) jd_int).js (S12.atV 11) (S12.at 6) rfl rfl (by unfold iS; simp; exact hp) fun H13 S13 => ?_
      have S13 : Sy K B' [] [some (.dat (.list (ns.map PyData.int))), some (.val (.ref a)), some (.dat (.int i)), o3, some (.dat (qD (shQ es))), some (.dat (.int (m : Int))), some (.dat (.int ((sAt (shQ es) j : Nat) : Int))), o7, o8, o9, some (.dat (.tuple ((fstS es m).map PyData.int))), some (.val (.ref g)), o12, o13] ((g, .lst ((iS (gAt (shQ es) j)).set (sAt (shQ es) j) (.dat (.int (gg + 1))))) :: (μ7 ++ [Tq TP])) σ' H13 := S13
      rw [iS_bump hb3] at S13
      exact tB_nil ⟨_, _, ⟨rfl, _, rfl⟩, S13⟩
    · rintro ρ' μ' σ' H' ⟨rfl, o6, rfl⟩ S11
      rw [fl] at S11
      have S11 := S11.drop1
      have hem : PyData.eqv (.tuple ((fstS es m).map PyData.int)) (.tuple ((fstS es m).map PyData.int)) = true := eqv_intsT _
      refine sy_when (b := !decide (((((fstS es m).map PyData.int).length : Nat) : Int) = (m : Int)) || (!PyData.eqv (.tuple ((fstS es m).map PyData.int)) (.tuple ((fstS es m).map PyData.int)) || !PyData.eqv (.tuple []) (.tuple []))) S11 (jt_or3 (jt_neI (jd_len T.n_len (S11.at 10) (.inl rfl)) (S11.at 5))
        (fun _ => jt_ne hu (jd_callXK2 okf hmf Ff.kp kbf (hr.mono (by decide)) (S11.at 5) (S11.at 4) ⟨es, m, rfl, hE, by omega, rfl⟩) (S11.at 10) (shaped_intsT _) (shaped_intsT _))
        (fun _ _ => jt_ne hu (d := .tuple []) (d' := .tuple []) (Jd.is (jd_callX Wf (hr.mono (by decide)) (ja_cons (S11.at 4) (ja_cons jd_int ja_nil)) rfl ⟨es, 0, rfl, hE, by omega, rfl⟩) rfl) (jd_tup ja_nil) rfl rfl)) (fun h => ?_) fun _ H12 S12 => ?_
      · rw [hem, fl, decide_eq_true rfl] at h
        simp [PyData.eqv, PyData.eqvAll] at h
      · exact law_mid T TB hr hE (by omega) (by omega) hD7 (by omega) S12 fun μ2 ρ2 σ2 H2 h2 ⟨p2, p3, p4, p5, p6, p7, p8, p9, p10, p11, p12, p13, e⟩ S' => ⟨ρ2, _, ⟨μ2, h2.mono (by omega), rfl, p2, p3, p4, p5, p6, p7, p8, p9, p10, p11, p12, p13, e⟩, S'⟩
  · rintro ρ' μ' σ' H' ⟨μD, hD, rfl, o2, o3, o4, o5, o6, o7, o8, o9, o10, o11, o12, o13, rfl⟩ S2
    have q3 : ∀ {σ H'} , Jd (XL P w K mg base c A outer s H E) (adr [] (μD ++ [Tq TP])) (match (defBody s_law).getD 2 (.Pass ⟨0, 0, 0, 0⟩) with | .Assign _ (.Call _ (e :: _) _ _) _ => e | _ => .Constant .none 0 ⟨0, 0, 0, 0⟩) σ H' (qD (shQ [6, 7, 8])) := fun {σ H'} => by
      rw [sh678]
      exact jd_tup (ja_cons jd_q (ja_cons jd_q (ja_cons jd_q ja_nil)))
    have fl : ((fstS [6, 7, 8] 400).map PyData.int).length = 400 := by rw [List.length_map, fstS_len]
    have hq : quotaB (shQ [6, 7, 8]) (.tuple ((fstS [6, 7, 8] 400).map PyData.int)) = true := fst_quota es678 400
    refine sy_set 3 S2 (jd_callX Wf (hr.mono (by decide)) (ja_cons q3 (ja_cons jd_int ja_nil)) rfl ⟨[6, 7, 8], 400, rfl, es678, by decide, rfl⟩) (fun σ3 H3 S3 => ?_) nd
    generalize hT : (fstS [6, 7, 8] 400).map PyData.int = told at *
    have S3 : Sy K noH [] [some (.dat (.list (ns.map PyData.int))), some (.val (.ref a)), o2, some (.dat (.tuple told)), o4, o5, o6, o7, o8, o9, o10, o11, o12, o13] (μD ++ [Tq TP]) σ3 H3 := S3
    have sh : ∀ {p1 p2 p3 p4 p5 p6 p7 p8 p9 p10 : Pos} {k1 k2 k3 k4 k5 k6 k7 k8 k9 k10 : Nat} , True := trivial
    have d678 : qD (shQ [6, 7, 8]) = .tuple [dq (2, 7), dq (1, 3), dq (8, 21)] := by rw [sh678]; rfl
    refine sy_retE (S3.ev (d := .bool true) (jd_and3 (k1 := true) (k2 := true) (Jd.is (jd_eqI (jd_len T.n_len (S3.at 3) (.inl rfl)) jd_int) (by rw [fl]; rfl)) (fun h => by cases h) (fun _ => Jd.is (jd_call Wkeep (hr.mono (by decide)) (ja_cons (Jd.is (jd_tup (ja_cons jd_q (ja_cons jd_q (ja_cons jd_q ja_nil)))) d678.symm) (ja_cons (S3.at 3) ja_nil)) rfl ⟨_, _, rfl, es678.sh, vok_tup (by omega), rfl⟩) (by rw [hq])) (fun _ h => by cases h)
      fun _ _ => Jd.is (jd_isB (Jd.is (jd_callX Wq (hr.mono (by decide)) (ja_cons (Jd.is (jd_tup (ja_cons jd_q (ja_cons jd_q (ja_cons jd_q ja_nil)))) d678.symm) (ja_cons (S3.at 3) ja_nil)) rfl ⟨_, _, rfl, es678.ask, es678.isP, es678.sh, vok_tup (by omega), rfl⟩) (by rw [hq])) jd_bl) rfl) fun v H4 S4 _ p => by rw [dBl p]; exact k H4)
end K89

set_option maxHeartbeats 0
namespace K89
open PySem PySem.Spec PyProof.Rows L2 J
abbrev R : PySem.W.OpenRow := PySem.W.OpenLaw.row PySem.Challenge.rw_judgedalike_k89_whole_orders_of_seats_ju
abbrev hk : PySem.W.Hook := He.hookX 5 fa fn [] tf ex
def ob (s : PySem.W.SharedT) : He.AlX := He.obsX 5 fa fn [] tf ex (HandSHeadRun.getT s)
theorem ob_eq (s : PySem.W.SharedT) : ob s = hk.obs s.abs := He.obsX_eq (HandSHeadRun.getT_eq s)
def loose0 : List Str := ["JudgeError", "BadShares", "BadMany", "ZERO", "ONE", "is_whole", "is_ratio", "lowest", "plus", "total", "MOST_PLACES", "MOST_SEATS", "are_parts", "need_parts", "seats_below", "seats_above", "last_time", "Seats", "within", "is_quota", "first_seats", "_law_begun", "_law_blended", "_law_draw", "_law_pick", "_law_caught", "_law_is_truth", "_law_same", "_law_q", "_law_st_is_whole"]
def loose1 : List Str := ["_law_st_parts", "_law_st_floor", "_law_st_ceiling", "_law_st_next", "_law_keeps", "_law_led", "_law_changed"]
def loose : List Str := loose0 ++ loose1
theorem run (w : World) : HandSHeadRun.RunEqI R (PySem.W.view R.prog [0, 42]) hk ob 9000 loose w := by
  unfold HandSHeadRun.RunEqI
  kernel_rfl
end K89

set_option maxHeartbeats 0
namespace K89
open PySem PySem.Spec PyProof.Rows L2 J Evl LamX
theorem law_at {w : World} {K : PySem.W.Frag} {h : Heap} {mg : Str → Option Value} {f : Addr} (X : K.In h) (G : h.Ns mainGlobals mg) (hf : mg "law" = some (.ref f)) (c : He.SaysX fa fn [] tf ex w h K) : LawAtS PySem.Challenge.rw_judgedalike_k89_whole_orders_of_seats_ju w K CX0 13 63 "script" mg f h := by
  have T := tx_mk X G c.t.d c.more
  obtain ⟨fd, F, hm⟩ := T.f_law
  rw [hf] at hm
  cases hm
  obtain ⟨oc, od, dV, kV, doc, pm, an, cdv, ct, osl, efd, lk, hcg, _, _⟩ := id F.ex
  obtain ⟨c0, hc0⟩ := He.codeIn_ref hcg
  have hcode : fd.code = .ref c0 := by rw [efd]; exact hc0
  have eC : He.codeOf K ("law", none) = c0 := He.codeOf_eq (p := ("law", none)) lk hcode
  have hcT : He.cT K ("law", none) = (c0, He.tabOf K c0) := by unfold He.cT; rw [eC]
  have mem : (("law", none) : He.Defn) ∈ tf := List.mem_singleton.mpr rfl
  have h1 := c.empty _ mem
  have h2 := c.out _ mem
  have h3 := c.hd _ mem
  rw [hcT] at h1 h2 h3
  have one : ∀ p ∈ [(c0, He.tabOf K c0)], p = (c0, He.tabOf K c0) := fun p hp => List.mem_singleton.mp hp
  refine ⟨fd, [(c0, He.tabOf K c0)], spLaw K (He.tabOf K c0) 63, fun p hp => by rw [one p hp]; exact h1, fun p hp => by rw [one p hp]; exact h2, fun p hp => by rw [one p hp]; exact PySem.W.codeHd_of_K X h3, ?_, fun H a ns hl _ hT hS => ⟨a, ns, rfl, hl, hS, hT _ (List.mem_singleton.mpr rfl), fun _ => rfl⟩, fun base KB NB hTB => ?_⟩
  · have b := FunD.bindsA (ps := ["script"]) F fun _ _ _ _ _ _ us hl => match us, hl with | [_], _ => rfl
    exact fun s v => b s [v] rfl
  · exact ok_law_k89 T F (He.tabOf K c0) fun c' hc' => by
      rw [hcode] at hc'
      cases hc'
      exact hTB _ (List.mem_singleton.mpr rfl)
end K89
open PySem PySem.W PySem.Calls PyProof.Rows
theorem PySem.Challenge.cw_judgedalike_k89_whole_orders_of_seats_ju_holds : PySem.Challenge.rw_judgedalike_k89_whole_orders_of_seats_ju.Holds := by
  w_on; o_law
  refine HandSHeadRun.head_imp (r := OpenLaw.row PySem.Challenge.rw_judgedalike_k89_whole_orders_of_seats_ju) (q := view (OpenLaw.row PySem.Challenge.rw_judgedalike_k89_whole_orders_of_seats_ju).prog [0, 42]) (H := K89.hk) (ob := K89.ob) (M := 9000) (loose := K89.loose) (d := HandSHeadRun.topDef (OpenLaw.row PySem.Challenge.rw_judgedalike_k89_whole_orders_of_seats_ju).prog 42) (kwd := []) K89.ob_eq
    K89.run (by kernel_rfl) (by kernel_rfl) (by kernel_rfl) (by rfl) (by first | assumption | decide +kernel) (by decide +kernel) ⟨rfl, rfl, rfl, rfl, rfl, by decide +kernel⟩ ?hw ?hc
  case hw => w_witness2
  case hc =>
    refine LamX.walk_ofTsE (l := PySem.Challenge.rw_judgedalike_k89_whole_orders_of_seats_ju) (n := 63) (k := 13) (x := "script") (CX := fun _ => L2.CX0) rfl (by decide) (by kernel_rfl) ⟨rfl, by decide, by decide⟩ ?F (fun _ _ _ _ _ z => z)
    intro w mg fa h Y G hmg0
    obtain ⟨K, KX, c⟩ := Y
    have hmg : mg ("law" : PySem.Str) = some (.ref fa) := by
      have e : (HandSHeadRun.topDef (OpenLaw.row PySem.Challenge.rw_judgedalike_k89_whole_orders_of_seats_ju).prog 42).name = ("law" : PySem.Str) := by kernel_rfl
      rw [← e]
      exact hmg0
    exact ⟨K, KX, K89.law_at KX G hmg c⟩

