import PyProof.Rows.All
import Wide.All
import OpenK.AllK
import Wide.FinOn
import HandS.ForMost
import HandS.Evl
import HandS.Flow
import HandS.Style
import HandS.Wide
import HandS.Gcd
import HandS.Zip
import HandS.Walk
import HandS.TupAny
import HandS.TupMul
import HandS.IsInst
import HandS.TupLe
import HandS.Conv
import HandS.DictTup
import HandS.Lambda
import HandS.ExcValue
import HandS.Defaults
import HandS.ExcIs
import HandS.ExcOwn
import HandS.ExcSuper
import HandS.HeadHook1
import HandS.BoundList
import KE.GoesMore
import KE.GoesEnum
import HandS.Deep
import HandS.MakeKwOnly
import HandS.HeadHook4
import KE.GoesZip
import HandS.CallLocal
import HandS.Head0
import HandS.Head1
import HandS.Head2
import HandS.Head3
import HandS.HeadEnd
import HandS.HeadHook2
import HandS.HeadHook3
import HandS.HeadWalk
import HandS.EndTab
import PySem.Challenge.RW_judgedalike_k60_whole_make_ups_near_one
set_option Elab.async false
set_option linter.all false
set_option maxRecDepth 100000
set_option maxHeartbeats 4000000
/-! J1: what an expression, a test, a statement makes, told over its own syntax; data in heaps of which some objects may change. -/
namespace J
open PySem PySem.Spec PyProof.Rows L2 Evl

/-! ### the weakest words of a piece of syntax -/
section
variable {X : Cx}
def tW (X : Cx) (e : Expr) : TE := fun σ H Q => ∀ (pins : List (Addr × Obj)) (s : Shared), Inv X pins σ H s → wpAny (model X.prog X.w) X.A (eval e X.env) (EP X pins σ Q) X.xe s
def tT (X : Cx) (e : Expr) : TT := fun σ H Q => ∀ (pins : List (Addr × Obj)) (s : Shared), Inv X pins σ H s → wpAny (model X.prog X.w) X.A (isTrue e X.env (eval e X.env)) (TP X pins σ Q) X.xe s
def tA (X : Cx) (es : List Expr) : TA := fun σ H Q => ∀ (pos : Pos) (pins : List (Addr × Obj)) (s : Shared), Inv X pins σ H s → wpAny (model X.prog X.w) X.A (spliced (backTo pos (starEach es X.env))) (AP X pins σ Q) X.xe s
def tS (X : Cx) (st : Stmt) : TS := fun D σ H => ∀ (pins : List (Addr × Obj)) (s : Shared), Inv X pins σ H s → wpAny (model X.prog X.w) X.A (exec st X.env) (SP X pins D) X.xe s
def tB (X : Cx) (sts : List Stmt) : TS := fun D σ H => ∀ (pins : List (Addr × Obj)) (s : Shared), Inv X pins σ H s → wpAny (model X.prog X.w) X.A (execs sts X.env) (SP X pins D) X.xe s
theorem pe_W {e : Expr} : PE X e (tW X e) := ⟨fun pins s _ _ _ I h => h pins s I⟩
theorem pt_T {e : Expr} : PT X e (tT X e) := ⟨fun pins s _ _ _ I h => h pins s I⟩
theorem pa_A {es : List Expr} : PA X es (tA X es) := ⟨fun pos pins s _ _ _ I h => h pos pins s I⟩
theorem ps_S {st : Stmt} : PS X st (tS X st) := ⟨fun pins s _ _ _ I h => h pins s I⟩
theorem pss_B {sts : List Stmt} : PSs X sts (tB X sts) := ⟨fun pins s _ _ _ I h => h pins s I⟩
variable {e : Expr} {es : List Expr} {st : Stmt} {sts : List Stmt} {σ : L2.St} {H : Hp}
theorem leW {t : TE} {Q : VK} (p : PE X e t) (q : t σ H Q) : tW X e σ H Q := fun pins s I => p.run pins s σ H Q I q
theorem leT {t : TT} {Q : Bool → Hp → Prop} (p : PT X e t) (q : t σ H Q) : tT X e σ H Q := fun pins s I => p.run pins s σ H Q I q
theorem leA {t : TA} {Q : List V → Hp → Prop} (p : PA X es t) (q : t σ H Q) : tA X es σ H Q := fun pos pins s I => p.run pos pins s σ H Q I q
theorem leS {t : TS} {D : Ends} (p : PS X st t) (q : t D σ H) : tS X st D σ H := fun pins s I => p.run pins s σ H D I q
theorem leB {t : TS} {D : Ends} (p : PSs X sts t) (q : t D σ H) : tB X sts D σ H := fun pins s I => p.run pins s σ H D I q
end

/-! ### heaps of which some objects may change -/
def hid (M : List Addr) (H : Hp) : Hp := fun a => if a ∈ M then none else H a
theorem hid_in {M : List Addr} {H : Hp} {a : Addr} (h : a ∈ M) : hid M H a = none := if_pos h
theorem hid_out {M : List Addr} {H : Hp} {a : Addr} (h : a ∉ M) : hid M H a = H a := if_neg h
theorem hid_nil {H : Hp} : hid [] H = H := by funext a; exact if_neg (by simp)
theorem hid_ex {M : List Addr} {H H1 : Hp} (e : Ex H H1) : Ex (hid M H) (hid M H1) := fun a o h => by
  by_cases ha : a ∈ M
  · rw [hid_in ha] at h; cases h
  · rw [hid_out ha] at h ⊢; exact e a o h
theorem hid_le {M : List Addr} {H : Hp} : Ex (hid M H) H := fun a o h => by
  by_cases ha : a ∈ M
  · rw [hid_in ha] at h; cases h
  · rw [hid_out ha] at h; exact h
theorem hid_sub {M M' : List Addr} {H : Hp} (s : ∀ a ∈ M, a ∈ M') : Ex (hid M' H) (hid M H) := fun a o h => by
  by_cases ha : a ∈ M'
  · rw [hid_in ha] at h; cases h
  · rw [hid_out ha] at h; rw [hid_out fun z => ha (s a z)]; exact h
theorem hid_upd {M : List Addr} {H : Hp} {a : Addr} {o : HO} (h : a ∈ M) : hid M (upd H a o) = hid M H := by
  funext b
  by_cases hb : b ∈ M
  · rw [hid_in hb, hid_in hb]
  · rw [hid_out hb, hid_out hb, upd_ne (fun z : b = a => hb (by rw [z]; exact h))]
/-- a new object that may change from now on -/
theorem hid_new {M : List Addr} {H : Hp} {a : Addr} {o : HO} (h : H a = none) : hid (a :: M) (upd H a o) = hid M H := by
  funext b
  by_cases hb : b ∈ M
  · rw [hid_in hb, hid_in (List.mem_cons_of_mem _ hb)]
  · by_cases hba : b = a
    · subst hba
      rw [hid_in List.mem_cons_self, hid_out hb, h]
    · rw [hid_out hb, hid_out (by simp [hba, hb]), upd_ne hba]
/-- all of them stand -/
def Al (M : List Addr) (H : Hp) : Prop := ∀ a ∈ M, H a ≠ none
theorem Al.ex {M : List Addr} {H H1 : Hp} (l : Al M H) (e : Ex H H1) : Al M H1 := fun a ha z => by
  cases h : H a with
  | none => exact l a ha h
  | some o => rw [e a o h] at z; cases z
theorem Al.nil {H : Hp} : Al [] H := fun a ha => nomatch ha
theorem Al.cons {M : List Addr} {H : Hp} {a : Addr} (l : Al M H) (h : H a ≠ none) : Al (a :: M) H := fun b hb => by
  rcases List.mem_cons.mp hb with z | z
  · rw [z]; exact h
  · exact l b z
theorem Al.upd {M : List Addr} {H : Hp} {a : Addr} {o : HO} (l : Al M H) : Al M (upd H a o) := fun b hb z => by
  by_cases h : b = a
  · rw [h, upd_same] at z; cases z
  · rw [upd_ne h] at z; exact l b hb z
theorem Al.out {M : List Addr} {H : Hp} {a : Addr} (l : Al M H) (h : H a = none) : a ∉ M := fun z => l a z h
theorem Al.newEx {M : List Addr} {H : Hp} {a : Addr} {o : HO} (l : Al M H) (h : H a = none) : hid M (L2.upd H a o) a = some o := by
  rw [hid_out (l.out h), upd_same]

/-! ### data -/
abbrev D := PyData
section
variable {K : PySem.W.Frag} {H H' : Hp}
mutual
theorem dpEx (e : Ex H H') : ∀ (d : D) (v : V), Dp K H v d → Dp K H' v d
  | .none, _, h => by cases h; exact .non
  | .bool b, _, h => by cases h; exact .bl b
  | .int i, _, h => by cases h; exact .int i
  | .str x, _, h => by cases h; exact .str x
  | .list ds, _, h => by cases h with | lst a b => exact .lst (ex_l e a) (dpExA e ds _ b)
  | .tuple ds, _, h => by cases h with | tup a b => exact .tup (ex_t e a) (dpExA e ds _ b)
  | .dict _, _, h => by cases h
theorem dpExA (e : Ex H H') : ∀ (ds : List D) (vs : List V), DpAll K H vs ds → DpAll K H' vs ds
  | [], _, h => by cases h; exact .nil
  | d :: ds, _, h => by cases h with | cons a b => exact .cons (dpEx e d _ a) (dpExA e ds _ b)
end
theorem _root_.L2.Dp.ex {v : V} {d : D} (h : Dp K H v d) (e : Ex H H') : Dp K H' v d := dpEx e d v h
theorem _root_.L2.DpAll.ex {vs : List V} {ds : List D} (h : DpAll K H vs ds) (e : Ex H H') : DpAll K H' vs ds := dpExA e ds vs h
theorem dpLen : ∀ {vs : List V} {ds : List D}, DpAll K H vs ds → vs.length = ds.length
  | _, _, .nil => rfl
  | _, _, .cons _ t => by rw [List.length_cons, List.length_cons, dpLen t]
theorem dpGet : ∀ {vs : List V} {ds : List D} {i : Nat} {d : D}, DpAll K H vs ds → ds[i]? = some d → ∃ v, vs[i]? = some v ∧ Dp K H v d
  | _, _, _, _, .nil, e => by simp at e
  | _, _, 0, _, .cons a _, e => by simp at e; subst e; exact ⟨_, rfl, a⟩
  | _, _, i + 1, d, .cons _ t, e => by
    obtain ⟨v, h1, h2⟩ := dpGet (i := i) (d := d) t (by simpa using e)
    exact ⟨v, by simpa using h1, h2⟩
theorem dpGetV : ∀ {vs : List V} {ds : List D} {i : Nat} {v : V}, DpAll K H vs ds → vs[i]? = some v → ∃ d, ds[i]? = some d ∧ Dp K H v d
  | _, _, _, _, .nil, e => by simp at e
  | _, _, 0, _, .cons a _, e => by simp at e; subst e; exact ⟨_, rfl, a⟩
  | _, _, i + 1, v, .cons _ t, e => by
    obtain ⟨d, h1, h2⟩ := dpGetV (i := i) (v := v) t (by simpa using e)
    exact ⟨d, by simpa using h1, h2⟩
theorem dpApp : ∀ {vs ws : List V} {ds es : List D}, DpAll K H vs ds → DpAll K H ws es → DpAll K H (vs ++ ws) (ds ++ es)
  | _, _, _, _, .nil, s => s
  | _, _, _, _, .cons r t, s => .cons r (dpApp t s)
theorem _root_.L2.DpAll.len {vs : List V} {ds : List D} (h : DpAll K H vs ds) : vs.length = ds.length := dpLen h
theorem _root_.L2.DpAll.get {vs : List V} {ds : List D} {i : Nat} {d : D} (h : DpAll K H vs ds) (e : ds[i]? = some d) : ∃ v, vs[i]? = some v ∧ Dp K H v d := dpGet h e
theorem _root_.L2.DpAll.getV {vs : List V} {ds : List D} {i : Nat} {v : V} (h : DpAll K H vs ds) (e : vs[i]? = some v) : ∃ d, ds[i]? = some d ∧ Dp K H v d := dpGetV h e
theorem _root_.L2.DpAll.append {vs ws : List V} {ds es : List D} (h : DpAll K H vs ds) (k : DpAll K H ws es) : DpAll K H (vs ++ ws) (ds ++ es) := dpApp h k
theorem dInt {v : V} {i : Int} (h : Dp K H v (.int i)) : v = .int i := by cases h; rfl
theorem dBl {v : V} {b : Bool} (h : Dp K H v (.bool b)) : v = .bl b := by cases h; rfl
theorem dNon {v : V} (h : Dp K H v .none) : v = .non := by cases h; rfl
theorem dStr {v : V} {x : Str} (h : Dp K H v (.str x)) : v = .str x := by cases h; rfl
theorem dTup {v : V} {ds : List D} (h : Dp K H v (.tuple ds)) : ∃ a xs, v = .ref a ∧ SqT K H a xs ∧ DpAll K H xs ds := by cases h with | tup a b => exact ⟨_, _, rfl, a, b⟩
theorem dLst {v : V} {ds : List D} (h : Dp K H v (.list ds)) : ∃ a xs, v = .ref a ∧ SqL K H a xs ∧ DpAll K H xs ds := by cases h with | lst a b => exact ⟨_, _, rfl, a, b⟩
theorem dInts : ∀ (ns : List Int), DpAll K H (ns.map V.int) (ns.map PyData.int)
  | [] => .nil
  | i :: r => .cons (.int i) (dInts r)
theorem dIntsV : ∀ {ns : List Int} {vs : List V}, DpAll K H vs (ns.map PyData.int) → vs = ns.map V.int
  | [], _, h => by cases h; rfl
  | i :: r, _, h => by cases h with | cons a b => rw [dInt a, dIntsV b]; rfl
theorem dBlsV : ∀ {bs : List Bool} {vs : List V}, DpAll K H vs (bs.map PyData.bool) → vs = bs.map V.bl
  | [], _, h => by cases h; rfl
  | i :: r, _, h => by cases h with | cons a b => rw [dBl a, dBlsV b]; rfl
end

/-! ### what an expression makes -/
/-- e makes the datum d, whatever was laid since H; nothing that H holds changes -/
def Jd (X : Cx) (M : List Addr) (e : Expr) (σ : L2.St) (H : Hp) (d : D) : Prop := Al M H → ∀ H1, Ex H H1 → ∀ Q : VK, (∀ v H2, Ex H1 H2 → Dp X.K (hid M H2) v d → Q v H2) → tW X e σ H1 Q
/-- .. the value v -/
def Jv (X : Cx) (e : Expr) (σ : L2.St) (H : Hp) (v : V) : Prop := ∀ H1, Ex H H1 → ∀ Q : VK, (∀ H2, Ex H1 H2 → Q v H2) → tW X e σ H1 Q
def Jt (X : Cx) (M : List Addr) (e : Expr) (σ : L2.St) (H : Hp) (b : Bool) : Prop := Al M H → ∀ H1, Ex H H1 → ∀ Q : Bool → Hp → Prop, (∀ H2, Ex H1 H2 → Q b H2) → tT X e σ H1 Q
def Ja (X : Cx) (M : List Addr) (es : List Expr) (σ : L2.St) (H : Hp) (ds : List D) : Prop := Al M H → ∀ H1, Ex H H1 → ∀ Q : List V → Hp → Prop, (∀ vs H2, Ex H1 H2 → DpAll X.K (hid M H2) vs ds → Q vs H2) → tA X es σ H1 Q
section
variable {X : Cx} {M : List Addr} {σ : L2.St} {H H' : Hp} {a b c e : Expr} {es : List Expr} {d d' : D} {v : V} {pos : Pos} {i j : Int}
theorem Jd.mono (h : Jd X M e σ H d) (x : Ex H H') : Al M H → Jd X M e σ H' d := fun al _ H1 y => h al H1 (x.trans y)
theorem Jt.mono {k : Bool} (h : Jt X M e σ H k) (x : Ex H H') : Al M H → Jt X M e σ H' k := fun al _ H1 y => h al H1 (x.trans y)
theorem Jv.mono (h : Jv X e σ H v) (x : Ex H H') : Jv X e σ H' v := fun H1 y => h H1 (x.trans y)
theorem Jv.int (h : Jd X M e σ H (.int i)) (al : Al M H) : Jv X e σ H (.int i) := fun H1 x Q q => h al H1 x Q fun v H2 y p => by rw [dInt p]; exact q H2 y
theorem Jv.bl {k : Bool} (h : Jd X M e σ H (.bool k)) (al : Al M H) : Jv X e σ H (.bl k) := fun H1 x Q q => h al H1 x Q fun v H2 y p => by rw [dBl p]; exact q H2 y
theorem Jd.ofV (h : Jv X e σ H v) (p : Dp X.K (hid M H) v d) : Jd X M e σ H d := fun _ H1 x Q q => h H1 x Q fun H2 y => q v H2 y (p.ex (hid_ex (x.trans y)))
theorem Jd.is (h : Jd X M e σ H d) (z : d = d') : Jd X M e σ H d' := z ▸ h
theorem Jt.is {k k' : Bool} (h : Jt X M e σ H k) (z : k = k') : Jt X M e σ H k' := z ▸ h
/-- names, constants -/
theorem jv_var (n : Nat) {x : Str} (h : σ[n]? = some (some v)) (hN : X.N[n]? = some x := by rfl) (hv : Vis X.env.scope x := by first | exact Or.inl rfl | exact Or.inr (Or.inl rfl) | exact Or.inr (Or.inr rfl)) (hd : (x == ("__debug__" : Str)) = false := by decide)
    (hcd : (x == ("__classdict__" : Str)) = false := by decide) : Jv X (.Name x pos) σ H v := fun H1 _ _ q => leW (pe_var hN hv hd hcd) ⟨v, h, q H1 (Ex.refl H1)⟩
theorem jd_var (n : Nat) {x : Str} (h : σ[n]? = some (some v)) (p : Dp X.K (hid M H) v d) (hN : X.N[n]? = some x := by rfl) (hv : Vis X.env.scope x := by first | exact Or.inl rfl | exact Or.inr (Or.inl rfl) | exact Or.inr (Or.inr rfl))
    (hd : (x == ("__debug__" : Str)) = false := by decide) (hcd : (x == ("__classdict__" : Str)) = false := by decide) : Jd X M (.Name x pos) σ H d := Jd.ofV (jv_var n h hN hv hd hcd) p
theorem jd_int {k} : Jd X M (.Constant (.int i) k pos) σ H (.int i) := fun _ H1 _ _ q => leW pe_int (q _ H1 (Ex.refl H1) (.int i))
theorem jd_bl {k : Bool} {n} : Jd X M (.Constant (.bool k) n pos) σ H (.bool k) := fun _ H1 _ _ q => leW pe_bl (q _ H1 (Ex.refl H1) (.bl k))
theorem jd_non {n} : Jd X M (.Constant .none n pos) σ H .none := fun _ H1 _ _ q => leW pe_non (q _ H1 (Ex.refl H1) .non)
theorem jd_str {n} {x : Str} : Jd X M (.Constant (.str x) n pos) σ H (.str x) := fun _ H1 _ _ q => leW pe_str (q _ H1 (Ex.refl H1) (.str x))
theorem jv_glob {x : Str} {u : Value} (hm : X.mg x = some u) (r : RelV v u) (hg : Gl X x := by rfl) (hd : (x == ("__debug__" : Str)) = false := by decide) : Jv X (.Name x pos) σ H v := fun H1 _ _ q => leW (pe_glob hg hm r hd) (q H1 (Ex.refl H1))
theorem jd_glob {x : Str} {u : Value} (hm : X.mg x = some u) (r : RelV v u) (p : Dp X.K (hid M H) v d) (hg : Gl X x := by rfl) (hd : (x == ("__debug__" : Str)) = false := by decide) : Jd X M (.Name x pos) σ H d := Jd.ofV (jv_glob hm r hg hd) p
/-- operators on two ints -/
theorem jd_opI {op : Operator} {C : Int → Int → Prop} {g : Int → Int → Int} (ho : OpR X (binaryOp op) (rI C fun i j => .int (g i j))) (ha : Jd X M a σ H (.int i)) (hb : Jd X M b σ H (.int j)) (hc : C i j) : Jd X M (.BinOp a op b pos) σ H (.int (g i j)) := fun al H1 x Q q =>
  leW (pe_op ho pe_W pe_W) (ha al H1 x _ fun v H2 y p => hb al H2 (x.trans y) _ fun w H3 z r => ⟨i, j, dInt p, dInt r, hc, q _ H3 (y.trans z) (.int _)⟩)
theorem jd_opI0 {op : Operator} {g : Int → Int → Int} (ho : OpR X (binaryOp op) (rI0 fun i j => .int (g i j))) (ha : Jd X M a σ H (.int i)) (hb : Jd X M b σ H (.int j)) : Jd X M (.BinOp a op b pos) σ H (.int (g i j)) := fun al H1 x Q q =>
  leW (pe_op ho pe_W pe_W) (ha al H1 x _ fun v H2 y p => hb al H2 (x.trans y) _ fun w H3 z r => ⟨i, j, dInt p, dInt r, q _ H3 (y.trans z) (.int _)⟩)
theorem jd_add (ha : Jd X M a σ H (.int i)) (hb : Jd X M b σ H (.int j)) : Jd X M (.BinOp a .Add b pos) σ H (.int (i + j)) := jd_opI0 op_add ha hb
theorem jd_sub (ha : Jd X M a σ H (.int i)) (hb : Jd X M b σ H (.int j)) : Jd X M (.BinOp a .Sub b pos) σ H (.int (i - j)) := jd_opI0 op_sub ha hb
theorem jd_mul (ha : Jd X M a σ H (.int i)) (hb : Jd X M b σ H (.int j)) (hc : CMulW i j) : Jd X M (.BinOp a .Mult b pos) σ H (.int (i * j)) := jd_opI op_mulW ha hb hc
theorem jd_div (ha : Jd X M a σ H (.int i)) (hb : Jd X M b σ H (.int j)) (hc : CDivW i j) : Jd X M (.BinOp a .FloorDiv b pos) σ H (.int (i / j)) := jd_opI op_fdivW ha hb hc
theorem jd_mod (ha : Jd X M a σ H (.int i)) (hb : Jd X M b σ H (.int j)) (hc : 0 < j) : Jd X M (.BinOp a .Mod b pos) σ H (.int (i % j)) := jd_opI op_mod ha hb hc
theorem jd_pow (ha : Jd X M a σ H (.int i)) (hb : Jd X M b σ H (.int j)) (hc : CPow i j) : Jd X M (.BinOp a .Pow b pos) σ H (.int (i ^ j.toNat)) := jd_opI op_pow ha hb hc
theorem jd_neg (ha : Jd X M a σ H (.int i)) : Jd X M (.UnaryOp .USub a pos) σ H (.int (-i)) := fun al H1 x Q q => leW (pe_un un_neg pe_W) (ha al H1 x _ fun v H2 y p => ⟨i, dInt p, q _ H2 y (.int _)⟩)
/-- comparisons of two ints, as values and tests -/
theorem jd_cmpI {op : CmpOp} {g : Int → Int → Bool} (ho : OpR X (compareOp op) (rI0 fun i j => .bl (g i j))) (ha : Jd X M a σ H (.int i)) (hb : Jd X M b σ H (.int j)) (hm : behindInMarks op b = false) : Jd X M (.Compare a [op] [b] pos) σ H (.bool (g i j)) := fun al H1 x Q q =>
  leW (pe_cmpR ho pe_W pe_W hm) (ha al H1 x _ fun v H2 y p => hb al H2 (x.trans y) _ fun w H3 z r => ⟨i, j, dInt p, dInt r, q _ H3 (y.trans z) (.bl _)⟩)
theorem jt_cmpI {op : CmpOp} {g : Int → Int → Bool} (ho : OpR X (compareOp op) (rI0 fun i j => .bl (g i j))) (ha : Jd X M a σ H (.int i)) (hb : Jd X M b σ H (.int j)) (hm : behindInMarks op b = false) : Jt X M (.Compare a [op] [b] pos) σ H (g i j) := fun al H1 x Q q =>
  leT (pt_cmpR ho pe_W pe_W hm) (ha al H1 x _ fun v H2 y p => hb al H2 (x.trans y) _ fun w H3 z r => ⟨i, j, dInt p, dInt r, _, rfl, q H3 (y.trans z)⟩)
theorem nm {op : CmpOp} (b : Expr) (h : (op == .In) = false) (h2 : (op == .NotIn) = false) : behindInMarks op b = false := nobehind b (fun z => by subst z; cases h) fun z => by subst z; cases h2
theorem jd_lt (ha : Jd X M a σ H (.int i)) (hb : Jd X M b σ H (.int j)) : Jd X M (.Compare a [.Lt] [b] pos) σ H (.bool (decide (i < j))) := jd_cmpI op_lt ha hb (nm b rfl rfl)
theorem jd_le (ha : Jd X M a σ H (.int i)) (hb : Jd X M b σ H (.int j)) : Jd X M (.Compare a [.LtE] [b] pos) σ H (.bool (decide (i ≤ j))) := jd_cmpI op_le ha hb (nm b rfl rfl)
theorem jd_gt (ha : Jd X M a σ H (.int i)) (hb : Jd X M b σ H (.int j)) : Jd X M (.Compare a [.Gt] [b] pos) σ H (.bool (decide (j < i))) := jd_cmpI op_gt ha hb (nm b rfl rfl)
theorem jd_ge (ha : Jd X M a σ H (.int i)) (hb : Jd X M b σ H (.int j)) : Jd X M (.Compare a [.GtE] [b] pos) σ H (.bool (decide (j ≤ i))) := jd_cmpI op_ge ha hb (nm b rfl rfl)
theorem jt_lt (ha : Jd X M a σ H (.int i)) (hb : Jd X M b σ H (.int j)) : Jt X M (.Compare a [.Lt] [b] pos) σ H (decide (i < j)) := jt_cmpI op_lt ha hb (nm b rfl rfl)
theorem jt_le (ha : Jd X M a σ H (.int i)) (hb : Jd X M b σ H (.int j)) : Jt X M (.Compare a [.LtE] [b] pos) σ H (decide (i ≤ j)) := jt_cmpI op_le ha hb (nm b rfl rfl)
theorem jt_gt (ha : Jd X M a σ H (.int i)) (hb : Jd X M b σ H (.int j)) : Jt X M (.Compare a [.Gt] [b] pos) σ H (decide (j < i)) := jt_cmpI op_gt ha hb (nm b rfl rfl)
theorem jt_ge (ha : Jd X M a σ H (.int i)) (hb : Jd X M b σ H (.int j)) : Jt X M (.Compare a [.GtE] [b] pos) σ H (decide (j ≤ i)) := jt_cmpI op_ge ha hb (nm b rfl rfl)
/-- a <= b <= c -/
theorem jt_chain {op op' : CmpOp} {g g' : Int → Int → Bool} {k : Int} (ho : OpR X (compareOp op) (rI0 fun i j => .bl (g i j))) (ho' : OpR X (compareOp op') (rI0 fun i j => .bl (g' i j))) (ha : Jd X M a σ H (.int i)) (hb : Jd X M b σ H (.int j)) (hc : Jd X M c σ H (.int k)) (hm : lastMarks [op, op'] [b, c] = false) :
    Jt X M (.Compare a [op, op'] [b, c] pos) σ H (g i j && g' j k) := fun al H1 x Q q =>
  leT (pt_chain ho ho' pe_W pe_W pe_W hm) (ha al H1 x _ fun v H2 y p => hb al H2 (x.trans y) _ fun w H3 z r => ⟨i, j, dInt p, dInt r, _, rfl, by
    cases e : g i j with
    | true =>
      rw [e, Bool.true_and] at q
      rw [if_pos rfl]
      exact hc al H3 ((x.trans y).trans z) _ fun u H4 z2 r2 => ⟨j, k, dInt r, dInt r2, _, rfl, q H4 ((y.trans z).trans z2)⟩
    | false =>
      rw [e, Bool.false_and] at q
      rw [if_neg Bool.false_ne_true]
      exact ⟨_, rfl, q H3 (y.trans z)⟩⟩)
theorem jd_chain {op op' : CmpOp} {g g' : Int → Int → Bool} {k : Int} (ho : OpR X (compareOp op) (rI0 fun i j => .bl (g i j))) (ho' : OpR X (compareOp op') (rI0 fun i j => .bl (g' i j))) (ha : Jd X M a σ H (.int i)) (hb : Jd X M b σ H (.int j)) (hc : Jd X M c σ H (.int k)) (hm : lastMarks [op, op'] [b, c] = false) :
    Jd X M (.Compare a [op, op'] [b, c] pos) σ H (.bool (g i j && g' j k)) := fun al H1 x Q q =>
  leW (pe_chain ho ho' pe_W pe_W pe_W hm) (ha al H1 x _ fun v H2 y p => hb al H2 (x.trans y) _ fun w H3 z r => ⟨i, j, dInt p, dInt r, _, rfl, by
    cases e : g i j with
    | true =>
      rw [e, Bool.true_and] at q
      rw [if_pos rfl]
      exact hc al H3 ((x.trans y).trans z) _ fun u H4 z2 r2 => ⟨j, k, dInt r, dInt r2, q _ H4 ((y.trans z).trans z2) (.bl _)⟩
    | false =>
      rw [e, Bool.false_and] at q
      rw [if_neg Bool.false_ne_true]
      exact q _ H3 (y.trans z) (.bl _)⟩)
/-- == and != of data -/
theorem jd_eq (hu : X.A.units + 64 < cLine) (ha : Jd X M a σ H d) (hb : Jd X M b σ H d') (s1 : SeqAt.shaped d = true := by rfl) (s2 : SeqAt.shaped d' = true := by rfl) : Jd X M (.Compare a [.Eq] [b] pos) σ H (.bool (PyData.eqv d d')) := fun al H1 x Q q =>
  leW (pe_cmpR (op_eqD hu) pe_W pe_W (nm b rfl rfl)) (ha al H1 x _ fun v H2 y p => hb al H2 (x.trans y) _ fun w H3 z r => ⟨d, d', (p.ex (hid_ex z)).ex hid_le, r.ex hid_le, s1, s2, q _ H3 (y.trans z) (.bl _)⟩)
theorem jd_ne (hu : X.A.units + 64 < cLine) (ha : Jd X M a σ H d) (hb : Jd X M b σ H d') (s1 : SeqAt.shaped d = true := by rfl) (s2 : SeqAt.shaped d' = true := by rfl) : Jd X M (.Compare a [.NotEq] [b] pos) σ H (.bool (!PyData.eqv d d')) := fun al H1 x Q q =>
  leW (pe_cmpR (op_neD hu) pe_W pe_W (nm b rfl rfl)) (ha al H1 x _ fun v H2 y p => hb al H2 (x.trans y) _ fun w H3 z r => ⟨d, d', (p.ex (hid_ex z)).ex hid_le, r.ex hid_le, s1, s2, q _ H3 (y.trans z) (.bl _)⟩)
theorem jt_eq (hu : X.A.units + 64 < cLine) (ha : Jd X M a σ H d) (hb : Jd X M b σ H d') (s1 : SeqAt.shaped d = true := by rfl) (s2 : SeqAt.shaped d' = true := by rfl) : Jt X M (.Compare a [.Eq] [b] pos) σ H (PyData.eqv d d') := fun al H1 x Q q =>
  leT (pt_cmpR (op_eqD hu) pe_W pe_W (nm b rfl rfl)) (ha al H1 x _ fun v H2 y p => hb al H2 (x.trans y) _ fun w H3 z r => ⟨d, d', (p.ex (hid_ex z)).ex hid_le, r.ex hid_le, s1, s2, _, rfl, q H3 (y.trans z)⟩)
theorem jt_ne (hu : X.A.units + 64 < cLine) (ha : Jd X M a σ H d) (hb : Jd X M b σ H d') (s1 : SeqAt.shaped d = true := by rfl) (s2 : SeqAt.shaped d' = true := by rfl) : Jt X M (.Compare a [.NotEq] [b] pos) σ H (!PyData.eqv d d') := fun al H1 x Q q =>
  leT (pt_cmpR (op_neD hu) pe_W pe_W (nm b rfl rfl)) (ha al H1 x _ fun v H2 y p => hb al H2 (x.trans y) _ fun w H3 z r => ⟨d, d', (p.ex (hid_ex z)).ex hid_le, r.ex hid_le, s1, s2, _, rfl, q H3 (y.trans z)⟩)
/-- == of ints -/
theorem dec_eqI : decide (V.int i = V.int j) = decide (i = j) := by by_cases h : i = j <;> simp [h]
theorem jd_eqI (ha : Jd X M a σ H (.int i)) (hb : Jd X M b σ H (.int j)) : Jd X M (.Compare a [.Eq] [b] pos) σ H (.bool (decide (i = j))) := fun al H1 x Q q =>
  leW (pe_cmpR op_eq pe_W pe_W (nm b rfl rfl)) (ha al H1 x _ fun v H2 y p => hb al H2 (x.trans y) _ fun w H3 z r => by rw [dInt p, dInt r]; exact ⟨rfl, by rw [dec_eqI]; exact q _ H3 (y.trans z) (.bl _)⟩)
theorem jt_eqI (ha : Jd X M a σ H (.int i)) (hb : Jd X M b σ H (.int j)) : Jt X M (.Compare a [.Eq] [b] pos) σ H (decide (i = j)) := fun al H1 x Q q =>
  leT (pt_cmpR op_eq pe_W pe_W (nm b rfl rfl)) (ha al H1 x _ fun v H2 y p => hb al H2 (x.trans y) _ fun w H3 z r => by rw [dInt p, dInt r]; exact ⟨rfl, _, rfl, by rw [dec_eqI]; exact q H3 (y.trans z)⟩)
theorem jt_neI (ha : Jd X M a σ H (.int i)) (hb : Jd X M b σ H (.int j)) : Jt X M (.Compare a [.NotEq] [b] pos) σ H (!decide (i = j)) := fun al H1 x Q q =>
  leT (pt_cmpR op_ne pe_W pe_W (nm b rfl rfl)) (ha al H1 x _ fun v H2 y p => hb al H2 (x.trans y) _ fun w H3 z r => by rw [dInt p, dInt r]; exact ⟨rfl, _, rfl, by rw [dec_eqI]; exact q H3 (y.trans z)⟩)
theorem jd_neI (ha : Jd X M a σ H (.int i)) (hb : Jd X M b σ H (.int j)) : Jd X M (.Compare a [.NotEq] [b] pos) σ H (.bool (!decide (i = j))) := fun al H1 x Q q =>
  leW (pe_cmpR op_ne pe_W pe_W (nm b rfl rfl)) (ha al H1 x _ fun v H2 y p => hb al H2 (x.trans y) _ fun w H3 z r => by rw [dInt p, dInt r]; exact ⟨rfl, by rw [dec_eqI]; exact q _ H3 (y.trans z) (.bl _)⟩)
/-- is None -/
def isN : D → Bool
  | .none => true
  | _ => false
theorem isN_dec {K : PySem.W.Frag} {v : V} (p : Dp K H v d) : decide (v = .non) = isN d := by
  cases p <;> first | rfl | simp [isN]
theorem jd_isN {n pos'} (ha : Jd X M a σ H d) : Jd X M (.Compare a [.Is] [.Constant .none n pos'] pos) σ H (.bool (isN d)) := fun al H1 x Q q =>
  leW (pe_cmp (pc_isN pe_W)) (ha al H1 x _ fun v H2 y p => by rw [isN_dec p]; exact q _ H2 y (.bl _))
theorem jt_isN {n pos'} (ha : Jd X M a σ H d) : Jt X M (.Compare a [.Is] [.Constant .none n pos'] pos) σ H (isN d) := fun al H1 x Q q =>
  leT (pt_cmp (pc_isN pe_W)) (ha al H1 x _ fun v H2 y p => by rw [isN_dec p]; exact ⟨_, rfl, q H2 y⟩)
theorem jd_notN {n pos'} (ha : Jd X M a σ H d) : Jd X M (.Compare a [.IsNot] [.Constant .none n pos'] pos) σ H (.bool (!isN d)) := fun al H1 x Q q =>
  leW (pe_cmp (pc_notN pe_W)) (ha al H1 x _ fun v H2 y p => by rw [isN_dec p]; exact q _ H2 y (.bl _))
theorem jt_notN {n pos'} (ha : Jd X M a σ H d) : Jt X M (.Compare a [.IsNot] [.Constant .none n pos'] pos) σ H (!isN d) := fun al H1 x Q q =>
  leT (pt_cmp (pc_notN pe_W)) (ha al H1 x _ fun v H2 y p => by rw [isN_dec p]; exact ⟨_, rfl, q H2 y⟩)
/-- is True, is False, of a bool -/
theorem jd_isB {k l : Bool} (ha : Jd X M a σ H (.bool k)) (hb : Jd X M b σ H (.bool l)) : Jd X M (.Compare a [.Is] [b] pos) σ H (.bool (decide (k = l))) := fun al H1 x Q q =>
  leW (pe_cmpR op_isBl pe_W pe_W (nm b rfl rfl)) (ha al H1 x _ fun v H2 y p => hb al H2 (x.trans y) _ fun w H3 z r => ⟨k, l, dBl p, dBl r, q _ H3 (y.trans z) (.bl _)⟩)
/-- a bool as a test -/
theorem jt_val {k : Bool} (ha : Jd X M a σ H (.bool k)) (he : ∀ whole, isTrue a X.env whole = (do let v ← whole; standAt a.pos; holding [v] (truthy v)) := by intro _; rfl) : Jt X M a σ H k := fun al H1 x Q q =>
  leT (pt_val pe_W he) (ha al H1 x _ fun v H2 y p => ⟨k, dBl p, q H2 y⟩)
theorem jt_not {k : Bool} (ha : Jt X M a σ H k) : Jt X M (.UnaryOp .Not a pos) σ H (!k) := fun al H1 x Q q => leT (pt_not pt_T) (ha al H1 x _ fun H2 y => q H2 y)
theorem jt_and {k l : Bool} (ha : Jt X M a σ H k) (hb : k = true → Jt X M b σ H l) : Jt X M (.BoolOp .And [a, b] pos) σ H (k && l) := fun al H1 x Q q =>
  leT (pw_and pt_T (pw_and1 pt_T)).pt (ha al H1 x _ fun H2 y => by
    cases k with
    | true => rw [if_pos rfl]; exact hb rfl al H2 (x.trans y) _ fun H3 z => q H3 (y.trans z)
    | false => rw [if_neg Bool.false_ne_true]; exact q H2 y)
theorem jt_or {k l : Bool} (ha : Jt X M a σ H k) (hb : k = false → Jt X M b σ H l) : Jt X M (.BoolOp .Or [a, b] pos) σ H (k || l) := fun al H1 x Q q =>
  leT (pw_or pt_T (pw_or1 pt_T)).pt (ha al H1 x _ fun H2 y => by
    cases k with
    | false => rw [if_neg Bool.false_ne_true]; exact hb rfl al H2 (x.trans y) _ fun H3 z => q H3 (y.trans z)
    | true => rw [if_pos rfl]; exact q H2 y)
theorem jt_and3 {k l m : Bool} (ha : Jt X M a σ H k) (hb : k = true → Jt X M b σ H l) (hc : k = true → l = true → Jt X M c σ H m) : Jt X M (.BoolOp .And [a, b, c] pos) σ H (k && (l && m)) := fun al H1 x Q q =>
  leT (pw_and pt_T (pw_and pt_T (pw_and1 pt_T))).pt (ha al H1 x _ fun H2 y => by
    cases k with
    | true =>
      rw [if_pos rfl]
      exact hb rfl al H2 (x.trans y) _ fun H3 z => by
        cases l with
        | true => rw [if_pos rfl]; exact hc rfl rfl al H3 ((x.trans y).trans z) _ fun H4 z2 => q H4 ((y.trans z).trans z2)
        | false => rw [if_neg Bool.false_ne_true]; exact q H3 (y.trans z)
    | false => rw [if_neg Bool.false_ne_true]; exact q H2 y)
theorem jt_or3 {k l m : Bool} (ha : Jt X M a σ H k) (hb : k = false → Jt X M b σ H l) (hc : k = false → l = false → Jt X M c σ H m) : Jt X M (.BoolOp .Or [a, b, c] pos) σ H (k || (l || m)) := fun al H1 x Q q =>
  leT (pw_or pt_T (pw_or pt_T (pw_or1 pt_T))).pt (ha al H1 x _ fun H2 y => by
    cases k with
    | false =>
      rw [if_neg Bool.false_ne_true]
      exact hb rfl al H2 (x.trans y) _ fun H3 z => by
        cases l with
        | false => rw [if_neg Bool.false_ne_true]; exact hc rfl rfl al H3 ((x.trans y).trans z) _ fun H4 z2 => q H4 ((y.trans z).trans z2)
        | true => rw [if_pos rfl]; exact q H3 (y.trans z)
    | true => rw [if_pos rfl]; exact q H2 y)
/-- and, or of bools, as values -/
theorem jd_and {k : Bool} (ha : Jd X M a σ H (.bool k)) (hf : k = false → d = .bool false) (hb : k = true → Jd X M b σ H d) : Jd X M (.BoolOp .And [a, b] pos) σ H d := fun al H1 x Q q =>
  leW (pe_and pe_W (pe_one pe_W)) (ha al H1 x _ fun v H2 y p => ⟨k, dBl p, by
    cases k with
    | true => rw [if_pos rfl]; exact hb rfl al H2 (x.trans y) _ fun v H3 z => q v H3 (y.trans z)
    | false => rw [if_neg Bool.false_ne_true]; rw [hf rfl] at q; exact q _ H2 y (.bl _)⟩)
theorem jd_or {k : Bool} (ha : Jd X M a σ H (.bool k)) (hf : k = true → d = .bool true) (hb : k = false → Jd X M b σ H d) : Jd X M (.BoolOp .Or [a, b] pos) σ H d := fun al H1 x Q q =>
  leW (pe_or pe_W (pe_one pe_W)) (ha al H1 x _ fun v H2 y p => ⟨k, dBl p, by
    cases k with
    | false => rw [if_neg Bool.false_ne_true]; exact hb rfl al H2 (x.trans y) _ fun v H3 z => q v H3 (y.trans z)
    | true => rw [if_pos rfl]; rw [hf rfl] at q; exact q _ H2 y (.bl _)⟩)
theorem jd_not {k : Bool} (ha : Jd X M a σ H (.bool k)) : Jd X M (.UnaryOp .Not a pos) σ H (.bool (!k)) := fun al H1 x Q q => leW (pe_not pe_W) (ha al H1 x _ fun v H2 y p => ⟨k, dBl p, q _ H2 y (.bl _)⟩)
/-- a if t else b -/
theorem jd_if {k : Bool} (hc : Jt X M c σ H k) (ha : k = true → Jd X M a σ H d) (hb : k = false → Jd X M b σ H d) : Jd X M (.IfExp c a b pos) σ H d := fun al H1 x Q q =>
  leW (pe_ifExp pt_T pe_W pe_W) (hc al H1 x _ fun H2 y => by
    cases k with
    | true => rw [if_pos rfl]; exact ha rfl al H2 (x.trans y) _ fun v H3 z => q v H3 (y.trans z)
    | false => rw [if_neg Bool.false_ne_true]; exact hb rfl al H2 (x.trans y) _ fun v H3 z => q v H3 (y.trans z))
/-- argument lists, displays -/
theorem ja_nil : Ja X M [] σ H [] := fun _ H1 _ Q q => leA pa_nil (q [] H1 (Ex.refl H1) .nil)
theorem ja_cons {ds : List D} (ha : Jd X M e σ H d) (hr : Ja X M es σ H ds) (hs : starEach (e :: es) X.env = (false, eval e X.env) :: starEach es X.env := by rfl) : Ja X M (e :: es) σ H (d :: ds) := fun al H1 x Q q =>
  leA (pa_cons pe_W pa_A hs) (ha al H1 x _ fun v H2 y p => hr al H2 (x.trans y) _ fun vs H3 z r => q _ H3 (y.trans z) (.cons (p.ex (hid_ex z)) r))
theorem jd_tup {n} {ds : List D} (h : Ja X M es σ H ds) (hz : ds.length ≤ 100000 := by first | (simp only [List.length_cons, List.length_nil]; omega) | omega | decide) : Jd X M (.Tuple es n pos) σ H (.tuple ds) := fun al H1 x Q q =>
  leW (pe_tup pa_A) (h al H1 x _ fun vs H2 y p => ⟨by rw [p.len]; exact sz_of hz, fun a ha => q _ _ (y.trans (Ex.new ha)) (.tup (SqT.of ((al.ex (x.trans y)).newEx ha)) (p.ex (hid_ex (Ex.new ha))))⟩)
theorem jd_lst {ds : List D} (h : Ja X M es σ H ds) (hz : ds.length ≤ 100000 := by first | (simp only [List.length_cons, List.length_nil]; omega) | omega | decide) : Jd X M (.List es pos) σ H (.list ds) := fun al H1 x Q q =>
  leW (pe_lst pa_A) (h al H1 x _ fun vs H2 y p => ⟨by rw [p.len]; exact sz_of hz, fun a ha => q _ _ (y.trans (Ex.new ha)) (.lst (SqL.of ((al.ex (x.trans y)).newEx ha)) (p.ex (hid_ex (Ex.new ha))))⟩)
/-- t[i], xs[i] -/
theorem jd_ixT {ds : List D} {n : Nat} (ha : Jd X M a σ H (.tuple ds)) (hb : Jd X M b σ H (.int i)) (hi : i = (n : Int)) (hn : ds[n]? = some d) (hx : PlainIx b := by exact fun _ _ => rfl) : Jd X M (.Subscript a b pos) σ H d := fun al H1 x Q q =>
  leW (pe_ix ix_tup pe_W pe_W hx) (ha al H1 x _ fun v H2 y p => hb al H2 (x.trans y) _ fun w H3 z r => by
    obtain ⟨t, xs, e1, e2, e3⟩ := dTup p
    obtain ⟨u, e4, e5⟩ := e3.get hn
    exact ⟨t, xs, i, u, e1, dInt r, ex_t z (ex_t hid_le e2), by rw [hi]; exact atI_nat e4, q _ H3 (y.trans z) (e5.ex (hid_ex z))⟩)
theorem jd_ixL {ds : List D} {n : Nat} (ha : Jd X M a σ H (.list ds)) (hb : Jd X M b σ H (.int i)) (hi : i = (n : Int)) (hn : ds[n]? = some d) (hx : PlainIx b := by exact fun _ _ => rfl) : Jd X M (.Subscript a b pos) σ H d := fun al H1 x Q q =>
  leW (pe_ix ix_list pe_W pe_W hx) (ha al H1 x _ fun v H2 y p => hb al H2 (x.trans y) _ fun w H3 z r => by
    obtain ⟨t, xs, e1, e2, e3⟩ := dLst p
    obtain ⟨u, e4, e5⟩ := e3.get hn
    exact ⟨t, xs, i, u, e1, dInt r, ex_l z (ex_l hid_le e2), by rw [hi]; exact atI_nat e4, q _ H3 (y.trans z) (e5.ex (hid_ex z))⟩)
/-- built-ins by name -/
theorem jd_len {ds : List D} {p : Pos} (hm : X.mg "len" = none) (ha : Jd X M a σ H d) (h : d = .tuple ds ∨ d = .list ds) (hg : Gl X "len" := by rfl) (hs : starEach [a] X.env = (false, eval a X.env) :: starEach [] X.env := by rfl) :
    Jd X M (.Call (.Name "len" p) [a] [] pos) σ H (.int ds.length) := fun al H1 x Q q =>
  leW (pe_callB call_len_seq hg hm boot_len (pa_cons pe_W pa_nil hs) (by decide) (by decide) hs) (ha al H1 x _ fun v H2 y p => by
    rcases h with rfl | rfl
    · obtain ⟨t, xs, e1, e2, e3⟩ := dTup p
      exact ⟨t, xs, by rw [e1], .inr (ex_t hid_le e2), by rw [e3.len]; exact q _ H2 y (.int _)⟩
    · obtain ⟨t, xs, e1, e2, e3⟩ := dLst p
      exact ⟨t, xs, by rw [e1], .inl (ex_l hid_le e2), by rw [e3.len]; exact q _ H2 y (.int _)⟩)
theorem jd_B1 {id : String} {x : Str} {p : Pos} {r : List V → Hp → VK → Prop} (hc : CallR X (.builtin id) r) (hm : X.mg x = none) (hv : bootBuiltins x = some (.builtin id)) (ha : Jd X M a σ H d) (h : ∀ v H1 Q, Ex H H1 → Dp X.K (hid M H1) v d → (∀ v' H2, Ex H1 H2 → Dp X.K (hid M H2) v' d' → Q v' H2) → r [v] H1 Q) (hg : Gl X x := by rfl)
    (hn : x ≠ "__name__" := by decide) (hdb : (x == ("__debug__" : Str)) = false := by decide) (hs : starEach [a] X.env = (false, eval a X.env) :: starEach [] X.env := by rfl) : Jd X M (.Call (.Name x p) [a] [] pos) σ H d' := fun al H1 x Q q =>
  leW (pe_callB hc hg hm hv (pa_cons pe_W pa_nil hs) hn hdb hs) (ha al H1 x _ fun v H2 y p => h v H2 Q (x.trans y) p fun v' H3 z => q v' H3 (y.trans z))
theorem jd_Ty1 {T : String} {x : Str} {p : Pos} {r : List V → Hp → VK → Prop} (hc : CallR X (.type T) r) (hm : X.mg x = none) (hv : bootBuiltins x = some (.type T)) (ha : Jd X M a σ H d) (h : ∀ v H1 Q, Ex H H1 → Dp X.K (hid M H1) v d → (∀ v' H2, Ex H1 H2 → Dp X.K (hid M H2) v' d' → Q v' H2) → r [v] H1 Q) (hg : Gl X x := by rfl)
    (hn : x ≠ "__name__" := by decide) (hdb : (x == ("__debug__" : Str)) = false := by decide) (hs : starEach [a] X.env = (false, eval a X.env) :: starEach [] X.env := by rfl) : Jd X M (.Call (.Name x p) [a] [] pos) σ H d' := fun al H1 x Q q =>
  leW (pe_callTy hc hg hm hv (pa_cons pe_W pa_nil hs) hn hdb hs) (ha al H1 x _ fun v H2 y p => h v H2 Q (x.trans y) p fun v' H3 z => q v' H3 (y.trans z))
end
end J

set_option maxHeartbeats 4000000
/-! J2: what stands in the slots and in the objects that may change; statements, loops, comprehensions. -/
namespace J
open PySem PySem.Spec PyProof.Rows L2 Evl

/-- at a: an exception of the class cls that was caught -/
def exV (cls : Value) (d : Option Addr) (a : Addr) : HO := .ext fun h => ∃ oe : Obj, h.get? a = some oe ∧ Zc cls d oe ∧ ∃ vs, oe.data = .fields vs
/-- what a slot, an item, a field holds: a datum that does not change, or just this value -/
inductive Sv where
  | dat (d : D)
  | val (v : V)
  | exc (cls : Value)
def Sv.holds (K : PySem.W.Frag) (G : Hp) : Sv → V → Prop
  | .dat d, v => Dp K G v d
  | .val w, v => v = w
  | .exc cls, v => ∃ a, v = .ref a ∧ G a = some (exV cls none a)
theorem Sv.holds.ex {K : PySem.W.Frag} {G G' : Hp} {s : Sv} {v : V} (h : s.holds K G v) (e : Ex G G') : s.holds K G' v := by
  cases s with
  | dat d => exact Dp.ex h e
  | val w => exact h
  | exc cls => obtain ⟨a, h1, h2⟩ := h; exact ⟨a, h1, e _ _ h2⟩
theorem paired_ex {K : PySem.W.Frag} {G G' : Hp} (e : Ex G G') : ∀ {xs : List Sv} {vs : List V}, Paired (fun s v => s.holds K G v) xs vs → Paired (fun s v => s.holds K G' v) xs vs
  | _, _, .nil => .nil
  | _, _, .cons a b => .cons (a.ex e) (paired_ex e b)
theorem paired2_ex {κ : Type} {K : PySem.W.Frag} {G G' : Hp} (e : Ex G G') : ∀ {xs : List (κ × Sv)} {vs : List (κ × V)}, Paired (fun (p : κ × Sv) (q : κ × V) => p.1 = q.1 ∧ p.2.holds K G q.2) xs vs → Paired (fun (p : κ × Sv) (q : κ × V) => p.1 = q.1 ∧ p.2.holds K G' q.2) xs vs
  | _, _, .nil => .nil
  | _, _, .cons a b => .cons ⟨a.1, a.2.ex e⟩ (paired2_ex e b)
theorem paired_len {α β : Type} {F : α → β → Prop} : ∀ {xs : List α} {vs : List β}, Paired F xs vs → xs.length = vs.length
  | _, _, .nil => rfl
  | _, _, .cons _ b => by rw [List.length_cons, List.length_cons, paired_len b]
theorem paired_get {α β : Type} {F : α → β → Prop} : ∀ {xs : List α} {vs : List β} {i : Nat} {s : α}, Paired F xs vs → xs[i]? = some s → ∃ v, vs[i]? = some v ∧ F s v
  | _, _, _, _, .nil, e => by simp at e
  | _, _, 0, _, .cons a _, e => by simp at e; subst e; exact ⟨_, rfl, a⟩
  | _, _, i + 1, s, .cons _ t, e => by
    obtain ⟨v, h1, h2⟩ := paired_get (i := i) (s := s) t (by simpa using e)
    exact ⟨v, by simpa using h1, h2⟩
theorem paired_set {α β : Type} {F : α → β → Prop} {a : α} {b : β} (h : F a b) : ∀ {xs : List α} {vs : List β} {i : Nat}, Paired F xs vs → Paired F (xs.set i a) (vs.set i b)
  | _, _, _, .nil => .nil
  | _, _, 0, .cons _ t => .cons h t
  | _, _, i + 1, .cons x t => .cons x (paired_set h t)
theorem paired_app {α β : Type} {F : α → β → Prop} : ∀ {xs ys : List α} {vs ws : List β}, Paired F xs vs → Paired F ys ws → Paired F (xs ++ ys) (vs ++ ws)
  | _, _, _, _, .nil, h => h
  | _, _, _, _, .cons a b, h => .cons a (paired_app b h)

/-- an object that may change -/
inductive Mo where
  | lst (xs : List Sv)
  | dct (kvs : List (Key × Sv))
  | ins (C dx : Addr) (fs : List (Str × Sv))
  | tab (q : Str)
abbrev Mu := List (Addr × Mo)
def Mo.holds (K : PySem.W.Frag) (G H : Hp) (a : Addr) : Mo → Prop
  | .lst xs => ∃ vs, H a = some (.lst vs) ∧ Paired (fun s v => s.holds K G v) xs vs
  | .dct kvs => ∃ vs, H a = some (.dK vs) ∧ Paired (fun (p : Key × Sv) (q : Key × V) => p.1 = q.1 ∧ p.2.holds K G q.2) kvs vs
  | .ins C dx fs => ∃ vs, H a = some (.ins C dx vs) ∧ Paired (fun (p : Str × Sv) (q : Str × V) => p.1 = q.1 ∧ p.2.holds K G q.2) fs vs
  | .tab q => ∃ ps : Array Value, H a = some (.tbl ps) ∧ TriplesOk ps.toList ∧ ∀ (pos : Pos) (cv : Value), codeAmong pos ps.toList = some cv → ∃ c, cv = .ref c ∧ G c = some (LamX.CodeO c q)
theorem Mo.holds.mono {K : PySem.W.Frag} {G G' H H' : Hp} {a : Addr} {m : Mo} (h : m.holds K G H a) (e : Ex G G') (k : H' a = H a) : m.holds K G' H' a := by
  cases m with
  | lst xs => obtain ⟨vs, h1, h2⟩ := h; exact ⟨vs, k.trans h1, paired_ex e h2⟩
  | dct xs => obtain ⟨vs, h1, h2⟩ := h; exact ⟨vs, k.trans h1, paired2_ex e h2⟩
  | ins C dx xs => obtain ⟨vs, h1, h2⟩ := h; exact ⟨vs, k.trans h1, paired2_ex e h2⟩
  | tab q => obtain ⟨ps, h1, h2, h3⟩ := h; exact ⟨ps, k.trans h1, h2, fun pos cv z => let ⟨c, a, b⟩ := h3 pos cv z; ⟨c, a, e _ _ b⟩⟩
theorem Mo.holds.some {K : PySem.W.Frag} {G H : Hp} {a : Addr} {m : Mo} (h : m.holds K G H a) : ∃ o, H a = some o := by
  cases m with
  | lst xs => obtain ⟨vs, h1, _⟩ := h; exact ⟨_, h1⟩
  | dct xs => obtain ⟨vs, h1, _⟩ := h; exact ⟨_, h1⟩
  | ins C dx xs => obtain ⟨vs, h1, _⟩ := h; exact ⟨_, h1⟩
  | tab q => obtain ⟨ps, h1, _⟩ := h; exact ⟨_, h1⟩

abbrev Ro := List (Option Sv)
def adr (M0 : List Addr) (μ : Mu) : List Addr := μ.map (·.1) ++ M0
/-- the state: B, what stood before and stands still; M0, others' objects that may change; the slots, the own objects that may change -/
structure Sy (K : PySem.W.Frag) (B : Hp) (M0 : List Addr) (ρ : Ro) (μ : Mu) (σ : L2.St) (H : Hp) : Prop where
  sl : ∀ (i : Nat) (s : Sv), ρ[i]? = some (some s) → ∃ v, σ[i]? = some (some v) ∧ s.holds K (hid (adr M0 μ) H) v
  ln : ρ.length = σ.length
  ob : ∀ p ∈ μ, p.2.holds K (hid (adr M0 μ) H) H p.1
  al : Al M0 H
  bs : Ex B H
  nb : ∀ p ∈ μ, B p.1 = none
  dj : (μ.map (·.1)).Nodup ∧ ∀ p ∈ μ, p.1 ∉ M0
section
variable {K : PySem.W.Frag} {B B' H H1 : Hp} {M0 : List Addr} {ρ : Ro} {μ : Mu} {σ : L2.St} {d : D} {v : V}
theorem Sy.all (S : Sy K B M0 ρ μ σ H) : Al (adr M0 μ) H := fun a ha z => by
  rcases List.mem_append.mp ha with h | h
  · obtain ⟨p, hp, e⟩ := List.mem_map.mp h
    obtain ⟨o, q⟩ := (S.ob p hp).some
    rw [← e, q] at z; cases z
  · exact S.al a h z
theorem Sy.ex (S : Sy K B M0 ρ μ σ H) (e : Ex H H1) : Sy K B M0 ρ μ σ H1 where
  sl := fun i s h => let ⟨v, a, b⟩ := S.sl i s h; ⟨v, a, b.ex (hid_ex e)⟩
  ln := S.ln
  ob := fun p hp => by
    obtain ⟨o, q⟩ := (S.ob p hp).some
    exact (S.ob p hp).mono (hid_ex e) ((e _ _ q).trans q.symm)
  al := S.al.ex e
  bs := S.bs.trans e
  nb := S.nb
  dj := S.dj
theorem Sy.set (S : Sy K B M0 ρ μ σ H) {s : Sv} (i : Nat) (h : s.holds K (hid (adr M0 μ) H) v) : Sy K B M0 (ρ.set i (some s)) μ (σ.set i (some v)) H where
  sl := fun j t e => by
    by_cases hj : j = i
    · subst hj
      by_cases hl : j < ρ.length
      · rw [List.getElem?_set_self hl] at e
        cases e
        exact ⟨v, List.getElem?_set_self (by rw [← S.ln]; exact hl), h⟩
      · rw [List.getElem?_eq_none (by simpa using hl)] at e; cases e
    · rw [List.getElem?_set_ne (Ne.symm hj)] at e ⊢
      exact S.sl j t e
  ln := by rw [List.length_set, List.length_set]; exact S.ln
  ob := S.ob
  al := S.al
  bs := S.bs
  nb := S.nb
  dj := S.dj
/-- a slot forgotten -/
theorem Sy.weak (S : Sy K B M0 ρ μ σ H) {ρ' : Ro} (hl : ρ'.length = ρ.length) (h : ∀ (i : Nat) (s : Sv), ρ'[i]? = some (some s) → ρ[i]? = some (some s)) : Sy K B M0 ρ' μ σ H :=
  ⟨fun i s e => S.sl i s (h i s e), hl.trans S.ln, S.ob, S.al, S.bs, S.nb, S.dj⟩
theorem Sy.unset (S : Sy K B M0 ρ μ σ H) (i : Nat) : Sy K B M0 (ρ.set i none) μ (σ.set i none) H where
  sl := fun j t e => by
    by_cases hj : j = i
    · subst hj
      by_cases hl : j < ρ.length
      · rw [List.getElem?_set_self hl] at e; cases e
      · rw [List.getElem?_eq_none (by simpa using hl)] at e; cases e
    · rw [List.getElem?_set_ne (Ne.symm hj)] at e ⊢
      exact S.sl j t e
  ln := by rw [List.length_set, List.length_set]; exact S.ln
  ob := S.ob
  al := S.al
  bs := S.bs
  nb := S.nb
  dj := S.dj
def wip (ρ : Ro) : List Nat → Ro
  | [] => ρ
  | v :: vs => (wip ρ vs).set v none
theorem Sy.wipe (S : Sy K B M0 ρ μ σ H) : ∀ vs : List Nat, Sy K B M0 (wip ρ vs) μ (L2.wipe σ vs) H
  | [] => S
  | v :: vs => (Sy.wipe S vs).unset v
/-- what stands now, its own objects left out, is the ground of a loop -/
def grd (μ : Mu) (H : Hp) : Hp := hid (μ.map (·.1)) H
theorem Sy.grdB (S : Sy K B M0 ρ μ σ H) : Ex B (grd μ H) := fun a o e => by
  unfold grd
  rw [hid_out fun z => ?_]
  · exact S.bs a o e
  · obtain ⟨p, hp, q⟩ := List.mem_map.mp z
    rw [← q, S.nb p hp] at e; cases e
theorem Sy.grd (S : Sy K B M0 ρ μ σ H) : Sy K (J.grd μ H) M0 ρ μ σ H :=
  ⟨S.sl, S.ln, S.ob, S.al, hid_le, fun p hp => hid_in (List.mem_map.mpr ⟨p, hp, rfl⟩), S.dj⟩
theorem hid_app {M M' : List Addr} : hid M (hid M' H) = hid (M' ++ M) H := by
  funext a
  unfold hid
  by_cases h1 : a ∈ M' <;> by_cases h2 : a ∈ M <;> simp [h1, h2]
/-- the ground's facts stand -/
theorem Sy.low (S : Sy K B M0 ρ μ σ H) : Ex (hid M0 B) (hid (adr M0 μ) H) := fun a o e => by
  by_cases ha : a ∈ M0
  · rw [hid_in ha] at e; cases e
  · rw [hid_out ha] at e
    rw [hid_out fun z => ?_]
    · exact S.bs a o e
    · rcases List.mem_append.mp z with z | z
      · obtain ⟨p, hp, q⟩ := List.mem_map.mp z
        rw [← q, S.nb p hp] at e; cases e
      · exact ha z
theorem Sy.base (S : Sy K B M0 ρ μ σ H) (e : Ex B' B) : Sy K B' M0 ρ μ σ H := ⟨S.sl, S.ln, S.ob, S.al, e.trans S.bs, fun p hp => by
  cases q : B' p.1 with
  | none => rfl
  | some o => exact absurd ((e _ _ q).symm.trans (S.nb p hp)) (by simp), S.dj⟩
theorem grd_low : hid M0 (J.grd μ H) = hid (adr M0 μ) H := hid_app
/-- start of a def: its arguments are data -/
theorem sy_start {M : List Addr} {vs : List V} {ds : List D} (al : Al M H) (p : DpAll K (hid M H) vs ds) {N : List Str} : Sy K H M (ds.map (fun d => some (Sv.dat d)) ++ List.replicate (N.length - ds.length) none) [] (L2.start N vs) H where
  sl := fun i s e => by
    have l := p.len
    unfold L2.start
    by_cases hi : i < ds.length
    · rw [List.getElem?_append_left (by simpa using hi), List.getElem?_map] at e
      have e2 : ds[i]? = some ds[i] := List.getElem?_eq_getElem hi
      rw [e2] at e
      cases e
      obtain ⟨v, h1, h2⟩ := p.get e2
      refine ⟨v, ?_, h2⟩
      rw [List.getElem?_append_left (by simpa using (by omega : i < vs.length)), List.getElem?_map, h1]; rfl
    · rw [List.getElem?_append_right (by simpa using hi)] at e
      rw [List.getElem?_replicate] at e
      split at e <;> cases e
  ln := by have l := p.len; unfold L2.start; simp [l]
  ob := fun _ h => nomatch h
  al := al
  bs := Ex.refl H
  nb := fun _ h => nomatch h
  dj := ⟨List.nodup_nil, fun _ h => nomatch h⟩
end

/-! ### expressions over such a state -/
section
variable {X : Cx} {B H : Hp} {M0 : List Addr} {ρ : Ro} {μ : Mu} {σ : L2.St} {d : D} {pos : Pos} {e : Expr}
theorem Sy.at (S : Sy X.K B M0 ρ μ σ H) (n : Nat) {x : Str} (h : ρ[n]? = some (some (.dat d)) := by rfl) (hN : X.N[n]? = some x := by rfl) (hv : Vis X.env.scope x := by first | exact Or.inl rfl | exact Or.inr (Or.inl rfl) | exact Or.inr (Or.inr rfl))
    (hd : (x == ("__debug__" : Str)) = false := by decide) (hcd : (x == ("__classdict__" : Str)) = false := by decide) : Jd X (adr M0 μ) (.Name x pos) σ H d := by
  obtain ⟨v, a, b⟩ := S.sl n _ h
  exact jd_var n a b hN hv hd hcd
theorem Sy.atV (S : Sy X.K B M0 ρ μ σ H) (n : Nat) {x : Str} {v : V} (h : ρ[n]? = some (some (.val v)) := by rfl) (hN : X.N[n]? = some x := by rfl) (hv : Vis X.env.scope x := by first | exact Or.inl rfl | exact Or.inr (Or.inl rfl) | exact Or.inr (Or.inr rfl))
    (hd : (x == ("__debug__" : Str)) = false := by decide) (hcd : (x == ("__classdict__" : Str)) = false := by decide) : Jv X (.Name x pos) σ H v := by
  obtain ⟨w, a, b⟩ := S.sl n _ h
  have b : w = v := b
  subst b
  exact jv_var n a hN hv hd hcd
/-- a pure value, with a state behind it -/
theorem Sy.ev (S : Sy X.K B M0 ρ μ σ H) (h : Jd X (adr M0 μ) e σ H d) {Q : VK} (k : ∀ v H', Sy X.K B M0 ρ μ σ H' → Ex H H' → Dp X.K (hid (adr M0 μ) H') v d → Q v H') : tW X e σ H Q :=
  h S.all H (Ex.refl H) Q fun v H' x p => k v H' (S.ex x) x p
theorem Sy.te (S : Sy X.K B M0 ρ μ σ H) {b : Bool} (h : Jt X (adr M0 μ) e σ H b) {Q : Bool → Hp → Prop} (k : ∀ H', Sy X.K B M0 ρ μ σ H' → Ex H H' → Q b H') : tT X e σ H Q :=
  h S.all H (Ex.refl H) Q fun H' x => k H' (S.ex x) x
end

/-! ### statements -/
section
variable {X : Cx} {B H : Hp} {M0 : List Addr} {ρ : Ro} {μ : Mu} {σ : L2.St} {d : D} {pos : Pos} {e : Expr} {rest A C : List Stmt} {D' : Ends}
theorem tB_nil (h : D'.nx σ H) : tB X [] D' σ H := leB pss_nil h
theorem tB_cons {st : Stmt} {t : TS} (p : PS X st t) (h : t { D' with nx := tB X rest D' } σ H) : tB X (st :: rest) D' σ H := leB (pss_cons p pss_B) h
theorem sy_ret (S : Sy X.K B M0 ρ μ σ H) (h : Jd X (adr M0 μ) e σ H d) (k : ∀ v H', Ex B H' → Ex H H' → Dp X.K (hid M0 H') v d → D'.rt v H') : tB X (.Return (some e) pos :: rest) D' σ H :=
  tB_cons (ps_ret pe_W) (S.ev h fun v H' S' x p => k v H' S'.bs x (p.ex (hid_sub fun a ha => List.mem_append_right _ ha)))
theorem sy_set (n : Nat) {x : Str} {p' : Pos} (S : Sy X.K B M0 ρ μ σ H) (h : Jd X (adr M0 μ) e σ H d) (k : ∀ σ' H', Sy X.K B M0 (ρ.set n (some (.dat d))) μ σ' H' → tB X rest D' σ' H') (hN : X.N.Nodup) (hi : X.N[n]? = some x := by rfl)
    (hx : Loc X.env.scope x := by first | exact Or.inl rfl | exact Or.inr rfl) (hs : swapsWith e (some (.Name x p')) pos.line X.env = pure false := by rfl) (hf : X.fn x = true ∨ X.env.scope.names.lookup x = some .local := by first | exact .inl rfl | exact .inr rfl) :
    tB X (.Assign [.Name x p'] e pos :: rest) D' σ H :=
  tB_cons (ps_set hN hi hx pe_W hs hf) (S.ev h fun v H' S' _ p => k _ H' (S'.set n (s := .dat d) p))
theorem sy_if {b : Bool} (S : Sy X.K B M0 ρ μ σ H) (h : Jt X (adr M0 μ) e σ H b) (h1 : b = true → ∀ H', Sy X.K B M0 ρ μ σ H' → tB X A { D' with nx := tB X rest D' } σ H') (h2 : b = false → ∀ H', Sy X.K B M0 ρ μ σ H' → tB X C { D' with nx := tB X rest D' } σ H') :
    tB X (.If e A C pos :: rest) D' σ H := tB_cons (ps_if pt_T pss_B pss_B) (S.te h fun H' S' _ => by
  cases b with
  | true => rw [if_pos rfl]; exact h1 rfl H' S'
  | false => rw [if_neg Bool.false_ne_true]; exact h2 rfl H' S')
/-- if without else -/
theorem sy_when {b : Bool} (S : Sy X.K B M0 ρ μ σ H) (h : Jt X (adr M0 μ) e σ H b) (h1 : b = true → ∀ H', Sy X.K B M0 ρ μ σ H' → tB X A { D' with nx := tB X rest D' } σ H') (h2 : b = false → ∀ H', Sy X.K B M0 ρ μ σ H' → tB X rest D' σ H') :
    tB X (.If e A [] pos :: rest) D' σ H := sy_if S h h1 fun hb H' S' => tB_nil (h2 hb H' S')
end
end J

set_option maxHeartbeats 4000000
/-! J3: what is walked, targets, loops, comprehensions; defs of data and their calls. -/
namespace J
open PySem PySem.Spec PyProof.Rows L2 Evl RZ

/-! ### what is walked -/
def tI (X : Cx) (tg iter : Expr) : TI := fun σ H R => ∀ (pins : List (Addr × Obj)) (s : Shared), Inv X pins σ H s →
  wpAny (model X.prog X.w) X.A (eval iter X.env) (fun v s1 => wpAny (model X.prog X.w) X.A (pyIter v) (PIE X pins σ tg R) X.xe s1) X.xe s
theorem pi_I {X : Cx} {tg iter : Expr} : PI X tg iter (tI X tg iter) := ⟨fun pins s _ _ _ I h => h pins s I⟩
theorem leI {X : Cx} {tg iter : Expr} {t : TI} {σ : L2.St} {H : Hp} {R : It → Hp → Prop} (p : PI X tg iter t) (q : t σ H R) : tI X tg iter σ H R := fun pins s I => p.run pins s σ H R I q
/-- J gives the data ds one after another, while the ground G0 stands -/
def Yl (K : PySem.W.Frag) (G0 : Hp) (J : It) (ds : List D) : Prop :=
  ∃ (G : Hp → Prop) (Y : Nat → Hp → V → Hp → Prop), Walk J ds.length G Y ∧ (∀ H, Ex G0 H → G H) ∧
    ∀ i H x H', i < ds.length → Ex G0 H → Y i H x H' → Ex H H' ∧ ∀ M, Al M H → Ex G0 (hid M H) → ∀ d, ds[i]? = some d → Dp K (hid M H') x d
def Jw (X : Cx) (M : List Addr) (tg iter : Expr) (σ : L2.St) (H : Hp) (ds : List D) : Prop :=
  Al M H → ∀ H1, Ex H H1 → ∀ R : It → Hp → Prop, (∀ J H2, Ex H1 H2 → Yl X.K (hid M H2) J ds → R J H2) → tI X tg iter σ H1 R
section
variable {X : Cx} {M : List Addr} {tg a b : Expr} {σ : L2.St} {H : Hp} {ds es : List D} {p pos : Pos}
theorem yl_at {K : PySem.W.Frag} {G0 : Hp} {xs : List V} (h : DpAll K G0 xs ds) : ∀ i H x H', i < ds.length → Ex G0 H → YAt xs i H x H' → Ex H H' ∧ ∀ M, Al M H → Ex G0 (hid M H) → ∀ d, ds[i]? = some d → Dp K (hid M H') x d := fun i H x H' _ _ y => by
  obtain ⟨rfl, e⟩ := y
  refine ⟨Ex.refl _, fun M _ g d hd => ?_⟩
  obtain ⟨v, h1, h2⟩ := h.get hd
  rw [e] at h1
  cases h1
  exact h2.ex g
theorem jw_tup (h : Jd X M a σ H (.tuple ds)) : Jw X M tg a σ H ds := fun al H1 x R k => leI (pi_tup pe_W) (h al H1 x _ fun v H2 y q => by
  obtain ⟨t, xs, e1, e2, e3⟩ := dTup q
  refine ⟨t, e1, ⟨xs, ex_t hid_le e2⟩, k _ H2 y ⟨_, _, by rw [← e3.len]; exact walk_tup, fun H3 g => ex_t g e2, yl_at e3⟩⟩)
theorem jw_lst (h : Jd X M a σ H (.list ds)) : Jw X M tg a σ H ds := fun al H1 x R k => leI (pi_list pe_W) (h al H1 x _ fun v H2 y q => by
  obtain ⟨t, xs, e1, e2, e3⟩ := dLst q
  refine ⟨t, e1, ⟨xs, ex_l hid_le e2⟩, k _ H2 y ⟨_, _, by rw [← e3.len]; exact walk_list, fun H3 g => ex_l g e2, yl_at e3⟩⟩)
/-- lo, lo + 1, .. -/
def rgD (lo : Int) (n : Nat) : List D := (List.range n).map fun i : Nat => PyData.int (lo + (i : Int))
theorem rgD_len {lo : Int} {n : Nat} : (rgD lo n).length = n := by simp [rgD]
theorem rgD_get {lo : Int} {n i : Nat} {d : D} (h : (rgD lo n)[i]? = some d) : i < n ∧ d = .int (lo + (i : Int)) := by
  unfold rgD at h
  rw [List.getElem?_map] at h
  by_cases hi : i < n
  · rw [List.getElem?_range hi] at h
    exact ⟨hi, (Option.some.inj h).symm⟩
  · rw [List.getElem?_eq_none (by simpa using hi)] at h; cases h
theorem yl_rng {K : PySem.W.Frag} {G0 : Hp} {lo : Int} {n : Nat} : Yl K G0 (Itr lo n) (rgD lo n) := ⟨_, _, by rw [rgD_len]; exact walk_range, fun _ _ => trivial, fun i H x H' _ _ y => by
  obtain ⟨rfl, e⟩ := y
  refine ⟨Ex.refl _, fun M _ _ d hd => ?_⟩
  obtain ⟨_, e2⟩ := rgD_get hd
  rw [e, e2]
  exact .int _⟩
theorem jw_rng1 {n : Int} (hm : X.mg "range" = none) (h : Jd X M a σ H (.int n)) (hn : -(2 ^ 62) ≤ n ∧ n < 2 ^ 62) (hg : Gl X "range" := by rfl) (hs : starEach [a] X.env = [(false, eval a X.env)] := by rfl) : Jw X M tg (.Call (.Name "range" p) [a] [] pos) σ H (rgD 0 n.toNat) := fun al H1 x R k =>
  leI (pi_range1 hg hm (pa_cons pe_W pa_nil hs) hs) (h al H1 x _ fun v H2 y q => ⟨n, by rw [dInt q], hn.1, hn.2, k _ H2 y yl_rng⟩)
theorem jw_rng2 {lo n : Int} (hm : X.mg "range" = none) (h : Jd X M a σ H (.int lo)) (h2 : Jd X M b σ H (.int n)) (hn : (-(2 ^ 62) ≤ lo ∧ lo < 2 ^ 62) ∧ -(2 ^ 62) ≤ n ∧ n < 2 ^ 62) (hg : Gl X "range" := by rfl)
    (hs : starEach [a, b] X.env = [(false, eval a X.env), (false, eval b X.env)] := by rfl) (hs2 : starEach [b] X.env = [(false, eval b X.env)] := by rfl) : Jw X M tg (.Call (.Name "range" p) [a, b] [] pos) σ H (rgD lo (n - lo).toNat) := fun al H1 x R k =>
  leI (pi_range2 hg hm (pa_cons pe_W (pa_cons pe_W pa_nil hs2) (by rw [hs, hs2])) hs hs2) (h al H1 x _ fun v H2 y q => h2 al H2 (x.trans y) _ fun w H3 z r => ⟨lo, n, by rw [dInt q, dInt r], ⟨hn.1.1, hn.1.2, hn.2.1, hn.2.2⟩, k _ H3 (y.trans z) yl_rng⟩)
/-- zip -/
def zipD : List D → List D → List D
  | d :: ds, e :: es => .tuple [d, e] :: zipD ds es
  | _, _ => []
theorem zipD_len : ∀ {ds es : List D}, (zipD ds es).length = min ds.length es.length
  | [], _ => by simp [zipD]
  | _ :: _, [] => by simp [zipD]
  | d :: ds, e :: es => by simp only [zipD, List.length_cons, zipD_len (ds := ds) (es := es)]; omega
theorem zipD_get : ∀ {ds es : List D} {i : Nat} {d : D}, (zipD ds es)[i]? = some d → ∃ a b, ds[i]? = some a ∧ es[i]? = some b ∧ d = .tuple [a, b]
  | [], _, _, _, h => by simp [zipD] at h
  | _ :: _, [], _, _, h => by simp [zipD] at h
  | d :: ds, e :: es, 0, z, h => by simp [zipD] at h; exact ⟨d, e, rfl, rfl, h.symm⟩
  | d :: ds, e :: es, i + 1, z, h => by
    obtain ⟨a, b, h1, h2, h3⟩ := zipD_get (ds := ds) (es := es) (i := i) (d := z) (by simpa [zipD] using h)
    exact ⟨a, b, by simpa using h1, by simpa using h2, h3⟩
theorem zipD_at {ds es : List D} {i : Nat} {a b : D} : ∀ {ds es : List D} {i : Nat}, ds[i]? = some a → es[i]? = some b → (zipD ds es)[i]? = some (.tuple [a, b])
  | [], _, _, h, _ => by simp at h
  | _ :: _, [], _, _, h => by simp at h
  | d :: ds, e :: es, 0, h, h2 => by simp at h h2; simp [zipD, h, h2]
  | d :: ds, e :: es, i + 1, h, h2 => by simpa [zipD] using zipD_at (ds := ds) (es := es) (i := i) (by simpa using h) (by simpa using h2)
theorem yl_pair {K : PySem.W.Frag} {G0 : Hp} {f g : Nat → Option V} {ds es : List D} (hf : ∀ (i : Nat) (d : D), ds[i]? = some d → ∃ v, f i = some v ∧ Dp K G0 v d) (hg : ∀ (i : Nat) (d : D), es[i]? = some d → ∃ v, g i = some v ∧ Dp K G0 v d) :
    ∀ i H x H', i < (zipD ds es).length → Ex G0 H → YPair f g i H x H' → Ex H H' ∧ ∀ M, Al M H → Ex G0 (hid M H) → ∀ d, (zipD ds es)[i]? = some d → Dp K (hid M H') x d := fun i H x H' _ _ y => by
  obtain ⟨T, u, w, e1, e2, e3, e4, e5⟩ := y
  subst e1 e3
  refine ⟨Ex.new e2, fun M al g0 d hd => ?_⟩
  obtain ⟨a, b, h1, h2, h3⟩ := zipD_get hd
  obtain ⟨v1, q1, q2⟩ := hf i a h1
  obtain ⟨v2, q3, q4⟩ := hg i b h2
  rw [e4] at q1
  rw [e5] at q3
  cases q1
  cases q3
  rw [h3]
  have up := hid_ex (M := M) (Ex.new (o := .tup [u, w]) e2)
  exact .tup (SqT.of (al.newEx e2)) (.cons ((q2.ex g0).ex up) (.cons ((q4.ex g0).ex up) .nil))
theorem walk_zipT {K : PySem.W.Frag} {a b : Addr} {xs ys : List V} {n : Nat} (hn : n = min xs.length ys.length) : Walk (ItzT K a b) n (fun H => SqT K H a xs ∧ SqT K H b ys) (YPair (fun i => xs[i]?) (fun i => ys[i]?)) := by
  subst hn
  refine ⟨fun i _ hi q => ?_, fun _ q => ⟨xs, ys, q.1, q.2, by omega⟩, fun i H v H' _ q y => ?_⟩
  · have h1 : i < xs.length := by omega
    have h2 : i < ys.length := by omega
    exact ⟨xs, ys, xs[i], ys[i], q.1, q.2, by simp [h1], by simp [h2]⟩
  · obtain ⟨T, x, z, h1, h2, h3, h4, h5⟩ := y
    exact ⟨T, x, z, h1, h2, h3, h4 xs q.1, h5 ys q.2⟩
theorem jw_zipT {elts : List Expr} {kk : Nat} {tpos : Pos} (hm : X.mg "zip" = none) (h : Jd X M a σ H (.tuple ds)) (h2 : Jd X M b σ H (.tuple es)) (hg : Gl X "zip" := by rfl) (hs : starEach [a, b] X.env = (false, eval a X.env) :: starEach [b] X.env := by rfl)
    (hs2 : starEach [b] X.env = (false, eval b X.env) :: starEach [] X.env := by rfl) (hpl : (backTo pos (starEach [b] X.env)).any (·.1) = false := by rfl) : Jw X M (.Tuple elts kk tpos) (.Call (.Name "zip" p) [a, b] [] pos) σ H (zipD ds es) := fun al H1 x R k =>
  leI (pi_zipA hg hm (pa_cons pe_W (pa_cons pe_W pa_nil hs2) hs) hs hpl) (h al H1 x _ fun v H2 y q => h2 al H2 (x.trans y) _ fun w H3 z r => by
    obtain ⟨t, xs, e1, e2, e3⟩ := dTup q
    obtain ⟨u, ys, f1, f2, f3⟩ := dTup r
    have e2' := ex_t (hid_ex (M := M) z) e2
    have e3' := e3.ex (hid_ex (M := M) z)
    refine ⟨t, u, xs, ys, by rw [e1, f1], .inr ⟨ex_t hid_le e2', ex_t hid_le f2, k _ H3 (y.trans z) ⟨_, _, walk_zipT (by rw [zipD_len, e3.len, f3.len]), fun H4 g => ⟨ex_t g e2', ex_t g f2⟩, yl_pair (fun i d hd => e3'.get hd) (fun i d hd => f3.get hd)⟩⟩⟩)
theorem jw_zipL {elts : List Expr} {kk : Nat} {tpos : Pos} (hm : X.mg "zip" = none) (h : Jd X M a σ H (.list ds)) (h2 : Jd X M b σ H (.list es)) (hg : Gl X "zip" := by rfl) (hs : starEach [a, b] X.env = (false, eval a X.env) :: starEach [b] X.env := by rfl)
    (hs2 : starEach [b] X.env = (false, eval b X.env) :: starEach [] X.env := by rfl) (hpl : (backTo pos (starEach [b] X.env)).any (·.1) = false := by rfl) : Jw X M (.Tuple elts kk tpos) (.Call (.Name "zip" p) [a, b] [] pos) σ H (zipD ds es) := fun al H1 x R k =>
  leI (pi_zipA hg hm (pa_cons pe_W (pa_cons pe_W pa_nil hs2) hs) hs hpl) (h al H1 x _ fun v H2 y q => h2 al H2 (x.trans y) _ fun w H3 z r => by
    obtain ⟨t, xs, e1, e2, e3⟩ := dLst q
    obtain ⟨u, ys, f1, f2, f3⟩ := dLst r
    have e2' := ex_l (hid_ex (M := M) z) e2
    have e3' := e3.ex (hid_ex (M := M) z)
    refine ⟨t, u, xs, ys, by rw [e1, f1], .inl ⟨ex_l hid_le e2', ex_l hid_le f2, k _ H3 (y.trans z) ⟨_, _, walk_zip (by rw [zipD_len, e3.len, f3.len]), fun H4 g => ⟨ex_l g e2', ex_l g f2⟩, yl_pair (fun i d hd => e3'.get hd) (fun i d hd => f3.get hd)⟩⟩⟩)
theorem jw_enumL {elts : List Expr} {kk : Nat} {tpos : Pos} (hm : X.mg "enumerate" = none) (h : Jd X M a σ H (.list ds)) (hg : Gl X "enumerate" := by rfl) (hs : starEach [a] X.env = [(false, eval a X.env)] := by rfl) :
    Jw X M (.Tuple elts kk tpos) (.Call (.Name "enumerate" p) [a] [] pos) σ H (zipD (rgD 0 ds.length) ds) := fun al H1 x R k =>
  leI (pi_enum hg hm (pa_cons pe_W pa_nil hs) hs) (h al H1 x _ fun v H2 y q => by
    obtain ⟨t, xs, e1, e2, e3⟩ := dLst q
    refine ⟨t, xs, by rw [e1], ex_l hid_le e2, k _ H2 y ⟨_, _, ?_, fun H4 g => ex_l g e2, yl_pair (f := fun i => some (.int (i : Nat))) (fun i d hd => ?_) (fun i d hd => e3.get hd)⟩⟩
    · have e : (zipD (rgD 0 ds.length) ds).length = xs.length := by rw [zipD_len, rgD_len, e3.len]; omega
      rw [e]
      exact walk_enum
    · obtain ⟨_, e4⟩ := rgD_get hd
      rw [e4, Int.zero_add]
      exact ⟨_, rfl, .int _⟩)
end

/-! ### targets -/
def tG (X : Cx) (tg : Expr) : TG := fun v σ H Q => ∀ (pins : List (Addr × Obj)) (s : Shared) (u : Value), Inv X pins σ H s → RelV v u →
  wpAny (model X.prog X.w) X.A (assign tg X.env u) (fun _ s' => ∃ σ' H', Inv X pins σ' H' s' ∧ Q σ' H') X.xe s
theorem pg_G {X : Cx} {tg : Expr} : PG X tg (tG X tg) := ⟨fun pins s _ _ _ u _ I r h => h pins s u I r⟩
theorem leG {X : Cx} {tg : Expr} {t : TG} {v : V} {σ : L2.St} {H : Hp} {Q : L2.St → Hp → Prop} (p : PG X tg t) (q : t v σ H Q) : tG X tg v σ H Q := fun pins s u I r => p.run pins s σ H v u Q I r q
def tGs (X : Cx) (ts : List Expr) : TGs := fun vs σ H Q => ∀ (pins : List (Addr × Obj)) (s : Shared) (us : List Value), Inv X pins σ H s → Vals vs us →
  wpAny (model X.prog X.w) X.A (assignInOrder ((assignEach ts X.env).map (·.2)) us) (fun _ s' => ∃ σ' H', Inv X pins σ' H' s' ∧ Q σ' H') X.xe s
theorem pgs_G {X : Cx} {ts : List Expr} : PGs X ts (tGs X ts) := ⟨fun pins s _ _ _ us _ I r h => h pins s us I r⟩
theorem leGs {X : Cx} {ts : List Expr} {t : TGs} {vs : List V} {σ : L2.St} {H : Hp} {Q : L2.St → Hp → Prop} (p : PGs X ts t) (q : t vs σ H Q) : tGs X ts vs σ H Q := fun pins s us I r => p.run pins s σ H vs us Q I r q
/-- storing the datum d at the target turns ρ into ρ2; the slots js alone are written -/
def Jg (X : Cx) (tg : Expr) (js : List Nat) (d : D) (ρ ρ2 : Ro) : Prop := ∀ (B : Hp) (M0 : List Addr) (μ : Mu) (σ : L2.St) (H : Hp) (v : V), Sy X.K B M0 ρ μ σ H → Dp X.K (hid (adr M0 μ) H) v d →
  ∀ Q : L2.St → Hp → Prop, (∀ σ2, Sy X.K B M0 ρ2 μ σ2 H → σ2.length = σ.length → (∀ i, i ∉ js → σ2[i]? = σ[i]?) → Q σ2 H) → tG X tg v σ H Q
def Jgs (X : Cx) (ts : List Expr) (js : List Nat) (ds : List D) (ρ ρ2 : Ro) : Prop := ∀ (B : Hp) (M0 : List Addr) (μ : Mu) (σ : L2.St) (H : Hp) (vs : List V), Sy X.K B M0 ρ μ σ H → DpAll X.K (hid (adr M0 μ) H) vs ds →
  ∀ Q : L2.St → Hp → Prop, (∀ σ2, Sy X.K B M0 ρ2 μ σ2 H → σ2.length = σ.length → (∀ i, i ∉ js → σ2[i]? = σ[i]?) → Q σ2 H) → tGs X ts vs σ H Q
section
variable {X : Cx} {ρ ρ1 ρ2 : Ro} {d : D} {ds : List D} {pos : Pos} {js ks : List Nat}
theorem jg_name (j : Nat) {x : Str} (hN : X.N.Nodup) (hi : X.N[j]? = some x := by rfl) (hx : Loc X.env.scope x := by first | exact Or.inl rfl | exact Or.inr rfl) (hf : X.fn x = true ∨ X.env.scope.names.lookup x = some .local := by first | exact .inl rfl | exact .inr rfl) :
    Jg X (.Name x pos) [j] d ρ (ρ.set j (some (.dat d))) := fun B M0 μ σ H v S p Q k =>
  leG (pg_name hN hi hx hf) (k _ (S.set j (s := .dat d) p) (by simp) fun i hi => by rw [List.getElem?_set_ne (by intro z; exact hi (by simp [z]))])
theorem jgs_nil : Jgs X [] [] [] ρ ρ := fun B M0 μ σ H vs S p Q k => leGs pgs_nil (by cases p; exact ⟨rfl, k σ S rfl fun _ _ => rfl⟩)
theorem jgs_cons {e : Expr} {es : List Expr} (h1 : Jg X e js d ρ ρ1) (h2 : Jgs X es ks ds ρ1 ρ2) (hs : (assignEach (e :: es) X.env).map (·.2) = assign e X.env :: (assignEach es X.env).map (·.2) := by rfl) : Jgs X (e :: es) (js ++ ks) (d :: ds) ρ ρ2 := fun B M0 μ σ H vs S p Q k =>
  leGs (pgs_cons pg_G pgs_G hs) (by
    cases p with
    | cons a b => exact ⟨_, _, rfl, h1 B M0 μ σ H _ S a _ fun σ1 S1 l1 o1 => h2 B M0 μ σ1 H _ S1 b Q fun σ2 S2 l2 o2 => k σ2 S2 (l2.trans l1) fun i hi => (o2 i fun z => hi (List.mem_append_right _ z)).trans (o1 i fun z => hi (List.mem_append_left _ z))⟩)
theorem jg_tup {es : List Expr} {n : Nat} (hc : X.calm = true) (h : Jgs X es js ds ρ ρ2) (hn : (assignEach es X.env).length = ds.length := by rfl) (hst : (assignEach es X.env).findIdx? (·.1) = none := by rfl) : Jg X (.Tuple es n pos) js (.tuple ds) ρ ρ2 := fun B M0 μ σ H v S p Q k =>
  leG (pg_tup hc pgs_G rfl hst) (by
    obtain ⟨a, xs, e1, e2, e3⟩ := dTup p
    exact ⟨a, xs, e1, ex_t hid_le e2, by rw [e3.len, hn], h B M0 μ σ H xs S e3 Q k⟩)
end

/-! ### for -/
section
variable {X : Cx} {B H : Hp} {M0 : List Addr} {ρ : Ro} {μ : Mu} {σ : L2.St} {ds : List D} {pos : Pos} {tg iter : Expr} {body rest : List Stmt} {D' : Ends} {js : List Nat}
theorem sy_for (S : Sy X.K B M0 ρ μ σ H) (hw : Jw X (adr M0 μ) tg iter σ H ds) (f : D → Ro → Ro) (hg : ∀ d ρ', d ∈ ds → Jg X tg js d ρ' (f d ρ')) (I : Nat → Ro → Mu → Prop) (h0 : I 0 ρ μ)
    (hs : ∀ i d ρ' μ' σ' H' B', ds[i]? = some d → I i ρ' μ' → Ex B B' → Sy X.K B' M0 (f d ρ') μ' σ' H' →
      tB X body ⟨fun σ2 H2 => ∃ ρ2 μ2, I (i + 1) ρ2 μ2 ∧ Sy X.K B' M0 ρ2 μ2 σ2 H2, D'.rt, tB X rest D', fun σ2 H2 => ∃ ρ2 μ2, I (i + 1) ρ2 μ2 ∧ Sy X.K B' M0 ρ2 μ2 σ2 H2⟩ σ' H')
    (hd : ∀ ρ' μ' σ' H', I ds.length ρ' μ' → Sy X.K B M0 ρ' μ' σ' H' → tB X rest D' σ' H')
    (hp : PassesOwn (model X.prog X.w) X.A X.env X.xe) (hc : X.calm = true) (hfs : ∀ x, foldedSetIterable iter X.env x = pure x := by intro _; rfl) : tB X (.For tg iter body [] pos :: rest) D' σ H :=
  tB_cons (ps_for hp hc pi_I pg_G pss_B hfs) (hw S.all H (Ex.refl H) _ fun J H2 x2 yl => by
    have S2 := S.ex x2
    obtain ⟨G, Y, w, hG, hY⟩ := yl
    have low : hid M0 (grd μ H2) = hid (adr M0 μ) H2 := grd_low
    refine for_it w (fun i σ' H' => ∃ ρ' μ', I i ρ' μ' ∧ Sy X.K (grd μ H2) M0 ρ' μ' σ' H') ⟨ρ, μ, h0, S2.grd⟩ (fun i σ' H' hi ⟨ρ', μ', _, S'⟩ => hG H' ?_) (fun i x σ' H' H3 hi ⟨ρ', μ', hI, S'⟩ y => ?_) fun σ' H' ⟨ρ', μ', hI, S'⟩ => hd ρ' μ' σ' H' hI (S'.base S2.grdB)
    · rw [← low]; exact S'.low.trans hid_le
    · have g0 : Ex (hid (adr M0 μ) H2) (hid (adr M0 μ') H') := by rw [← low]; exact S'.low
      obtain ⟨x3, dx⟩ := hY i H' x H3 hi (g0.trans hid_le) y
      have hdi : ds[i]? = some ds[i] := List.getElem?_eq_getElem hi
      have p := dx (adr M0 μ') S'.all g0 ds[i] hdi
      have S3 := S'.ex x3
      exact hg ds[i] ρ' (List.getElem_mem hi) _ _ _ _ _ _ S3 p _ fun σ4 S4 _ _ => hs i ds[i] ρ' μ' σ4 H3 (grd μ H2) hdi hI S2.grdB S4)
end

/-! ### comprehensions -/
def Blk (X : Cx) (scope : Scope) (X' : Cx) : Prop := ∃ (s : Shared) (H : Hp) (C : Addr) (cl : List (Str × Addr)) (fp : List Addr), X' = X.blk s H scope (compEnvC scope cl C X.env) fp
def tWb (X : Cx) (scope : Scope) (e : Expr) : TE := fun σ H Q => ∀ X', Blk X scope X' → tW X' e σ H Q
def tGb (X : Cx) (scope : Scope) (tg : Expr) : TG := fun v σ H Q => ∀ X', Blk X scope X' → tG X' tg v σ H Q
def tTs (X : Cx) (ifs : List Expr) : TT := fun σ H Q => ∀ (pins : List (Addr × Obj)) (s : Shared), Inv X pins σ H s →
  wpAny (model X.prog X.w) X.A (forIn ifs true fun c r => if r = true then do let ok ← isTrue c X.env (eval c X.env); pure (ForInStep.yield ok) else pure (ForInStep.yield r)) (TP X pins σ Q) X.xe s
theorem pts_T {X : Cx} {ifs : List Expr} : PTs X ifs (tTs X ifs) := ⟨fun pins s _ _ _ I h => h pins s I⟩
def tTsb (X : Cx) (scope : Scope) (ifs : List Expr) : TT := fun σ H Q => ∀ X', Blk X scope X' → tTs X' ifs σ H Q
def Jts (X : Cx) (M : List Addr) (ifs : List Expr) (σ : L2.St) (H : Hp) (b : Bool) : Prop := Al M H → ∀ H1, Ex H H1 → ∀ Q : Bool → Hp → Prop, (∀ H2, Ex H1 H2 → Q b H2) → tTs X ifs σ H1 Q
theorem jts_nil {X : Cx} {M : List Addr} {σ : L2.St} {H : Hp} : Jts X M [] σ H true := fun _ H1 _ Q k pins s I => pts_nil.run pins s σ H1 Q I (k H1 (Ex.refl H1))
theorem jts_one {X : Cx} {M : List Addr} {σ : L2.St} {H : Hp} {c : Expr} {b : Bool} (h : Jt X M c σ H b) : Jts X M [c] σ H b := fun al H1 x Q k pins s I => (pts_one pt_T).run pins s σ H1 Q I (h al H1 x Q k)
theorem wipe_eq {σ σ2 : L2.St} {vs : List Nat} (hl : σ2.length = σ.length) (h : ∀ i, i ∉ vs → σ2[i]? = σ[i]?) : L2.wipe σ2 vs = L2.wipe σ vs := by
  have key : ∀ (τ : L2.St) (i : Nat), i ∈ vs → (L2.wipe τ vs)[i]? = if i < τ.length then some none else none := fun τ i hi => by
    by_cases hlt : i < τ.length
    · rw [if_pos hlt]
      have hlt2 : i < (L2.wipe τ vs).length := by rw [wipe_length]; exact hlt
      rw [List.getElem?_eq_getElem hlt2]
      congr 1
      cases q : (L2.wipe τ vs)[i] with
      | none => rfl
      | some x =>
        have q2 : (L2.wipe τ vs)[i]? = some (some x) := by rw [List.getElem?_eq_getElem hlt2, q]
        exact absurd hi (wipe_some q2).2
    · rw [if_neg hlt, List.getElem?_eq_none (by rw [wipe_length]; omega)]
  refine List.ext_getElem? fun i => ?_
  by_cases hi : i ∈ vs
  · rw [key _ i hi, key _ i hi, hl]
  · rw [wipe_out hi, wipe_out hi, h i hi]
/-- e makes a new list of these data -/
def Jn (X : Cx) (M : List Addr) (e : Expr) (σ : L2.St) (H : Hp) (ds : List D) : Prop := Al M H → ∀ H1, Ex H H1 → ∀ Q : VK, (∀ a vs H2, Ex H1 H2 → H1 a = none → H2 a = some (.lst vs) → DpAll X.K (hid (a :: M) H2) vs ds → Q (.ref a) H2) → tW X e σ H1 Q
theorem Jn.jd {X : Cx} {M : List Addr} {e : Expr} {σ : L2.St} {H : Hp} {ds : List D} (h : Jn X M e σ H ds) : Jd X M e σ H (.list ds) := fun al H1 x Q q => h al H1 x Q fun a vs H2 y hn ha p => by
  have hM : a ∉ M := (al.ex x).out hn
  exact q _ H2 y (.lst (SqL.of (by rw [hid_out hM]; exact ha)) (p.ex (hid_sub fun b hb => List.mem_cons_of_mem _ hb)))
section
variable {X : Cx} {B H : Hp} {M0 : List Addr} {ρ : Ro} {μ : Mu} {σ : L2.St} {ds : List D} {pos : Pos} {tg iter elt : Expr} {ifs : List Expr} {scope : Scope} {own : List (Str × Nat)} {js : List Nat}
theorem fm_snoc {out : List (Option D)} {i : Nat} {o : Option D} (h : out[i]? = some o) : (out.take (i + 1)).filterMap id = (out.take i).filterMap id ++ o.toList := by
  rw [List.take_add_one, h, List.filterMap_append]
  cases o <;> rfl
theorem fm_len {out : List (Option D)} : (out.filterMap id).length ≤ out.length := List.length_filterMap_le _ _
/-- [elt for tg in iter if ..]: out tells of each turn whether it gives, and what -/
theorem lcN_tree (S : Sy X.K B M0 ρ μ σ H) (hw : Jw X (adr M0 μ) tg iter σ H ds) (out : List (Option D)) (hl : out.length = ds.length) (hz : ds.length ≤ 90000) (f : D → Ro → Ro) (hjs : ∀ j ∈ js, j ∈ own.map (·.2))
    (hg : ∀ X' d, Blk X scope X' → d ∈ ds → Jg X' tg js d (wip ρ (own.map (·.2))) (f d (wip ρ (own.map (·.2)))))
    (ht : ∀ (i : Nat) (d : D) (o : Option D) X' B' M' σ' H', ds[i]? = some d → out[i]? = some o → Blk X scope X' → Sy X'.K B' M' (f d (wip ρ (own.map (·.2)))) μ σ' H' → Jts X' (adr M' μ) ifs σ' H' o.isSome)
    (he : ∀ (i : Nat) (d x : D) X' B' M' σ' H', ds[i]? = some d → out[i]? = some (some x) → Blk X scope X' → Sy X'.K B' M' (f d (wip ρ (own.map (·.2)))) μ σ' H' → Jd X' (adr M' μ) elt σ' H' x)
    {H1 : Hp} (al : Al (adr M0 μ) H) (x1 : Ex H H1) {Q : VK} (k : ∀ a vs H2, Ex H1 H2 → H1 a = none → H2 a = some (.lst vs) → DpAll X.K (hid (a :: adr M0 μ) H2) vs (out.filterMap id) → Q (.ref a) H2) :
    tLc (tI X tg iter) (tGb X scope tg) (tTsb X scope ifs) (tWb X scope elt) (own.map (·.2)) σ H1 Q := by
  have S1 := S.ex x1
  refine hw al H1 x1 _ fun J H2 x2 yl Dl hD => ?_
  have S2 := S1.ex x2
  obtain ⟨G, Y, w, hG, hY⟩ := yl
  have nD : Dl ∉ μ.map (·.1) := fun z => by
    obtain ⟨p, hp, e⟩ := List.mem_map.mp z
    obtain ⟨o, q⟩ := (S2.ob p hp).some
    rw [e, hD] at q; cases q
  have nM : Dl ∉ M0 := S2.al.out hD
  -- between two turns: all of H2 stands, the list holds what the turns gave
  let Pv : Nat → Hp → Prop := fun i H' => Ex H2 H' ∧ ∃ acc, H' Dl = some (.lst acc) ∧ DpAll X.K (hid (Dl :: adr M0 μ) H') acc ((out.take i).filterMap id)
  have st : ∀ H', Ex H2 H' → H' Dl ≠ none → Sy X.K H2 (Dl :: M0) ρ [] σ H2 → True := fun _ _ _ _ => trivial
  have mk : ∀ {H'}, Ex H2 H' → H' Dl ≠ none → Sy X.K B (Dl :: M0) ρ μ σ H' := fun {H'} e hn => by
    have ee : Ex (hid (adr M0 μ) H2) (hid (adr (Dl :: M0) μ) H') := fun a o q => by
      by_cases ha : a ∈ adr M0 μ
      · rw [hid_in ha] at q; cases q
      · rw [hid_out ha] at q
        rw [hid_out fun z => ?_]
        · exact e a o q
        · rcases List.mem_append.mp z with z | z
          · exact ha (List.mem_append_left _ z)
          · rcases List.mem_cons.mp z with z | z
            · rw [z, hD] at q; cases q
            · exact ha (List.mem_append_right _ z)
    exact ⟨fun i s h => let ⟨v, a, b⟩ := S2.sl i s h; ⟨v, a, b.ex ee⟩, S2.ln, fun p hp => by
      obtain ⟨o, q⟩ := (S2.ob p hp).some
      exact (S2.ob p hp).mono ee ((e _ _ q).trans q.symm), (S2.al.ex e).cons hn, S2.bs.trans e, S2.nb, S2.dj.1, fun p hp z => by
      rcases List.mem_cons.mp z with z | z
      · exact nD (List.mem_map.mpr ⟨p, hp, z⟩)
      · exact S2.dj.2 p hp z⟩
  have lowD : ∀ {H'}, Ex H2 H' → Ex (hid (adr M0 μ) H2) (hid (adr (Dl :: M0) μ) H') := fun {H'} e a o q => by
    by_cases ha : a ∈ adr M0 μ
    · rw [hid_in ha] at q; cases q
    · rw [hid_out ha] at q
      rw [hid_out fun z => ?_]
      · exact e a o q
      · rcases List.mem_append.mp z with z | z
        · exact ha (List.mem_append_left _ z)
        · rcases List.mem_cons.mp z with z | z
          · rw [z, hD] at q; cases q
          · exact ha (List.mem_append_right _ z)
  have sameM : ∀ {H' : Hp}, Ex (hid (adr (Dl :: M0) μ) H') (hid (Dl :: adr M0 μ) H') := fun {H'} => hid_sub fun a ha => by
    rcases List.mem_cons.mp ha with z | z
    · exact List.mem_append_right _ (by rw [z]; exact List.mem_cons_self)
    · rcases List.mem_append.mp z with z | z
      · exact List.mem_append_left _ z
      · exact List.mem_append_right _ (List.mem_cons_of_mem _ z)
  refine lc_it w (fun i H' => Pv i H') ⟨Ex.new hD, [], upd_same, .nil⟩ (fun i H' hi p => hG H' (hid_le.trans p.1)) (fun i x H' H3 hi p y => ?_) (fun H' p => ?_)
  · obtain ⟨pe, acc, pa, pd⟩ := p
    obtain ⟨x3, dx⟩ := hY i H' x H3 hi (hid_le.trans pe) y
    have nD' : H' Dl ≠ none := by rw [pa]; simp
    have S' := mk pe nD'
    have S3 := S'.ex x3
    have hdi : ds[i]? = some ds[i] := List.getElem?_eq_getElem hi
    have hoi : ∃ o, out[i]? = some o := ⟨out[i]'(by omega), List.getElem?_eq_getElem (by omega)⟩
    obtain ⟨o, hoi⟩ := hoi
    have q := dx (adr (Dl :: M0) μ) S'.all (lowD pe) ds[i] hdi
    have S3w := S3.wipe (own.map (·.2))
    intro X' hX
    have eK : X'.K = X.K := by obtain ⟨_, _, _, _, _, rfl⟩ := hX; rfl
    have S3w' : Sy X'.K B (Dl :: M0) (wip ρ (own.map (·.2))) μ (L2.wipe σ (own.map (·.2))) H3 := by rw [eK]; exact S3w
    have q' : Dp X'.K (hid (adr (Dl :: M0) μ) H3) x ds[i] := by rw [eK]; exact q
    refine hg X' ds[i] hX (List.getElem_mem hi) _ _ _ _ _ _ S3w' q' _ fun σ4 S4 l4 o4 => ⟨?_, ?_⟩
    · rw [wipe_eq (vs := own.map (·.2)) l4 fun j hj => o4 j fun z => hj (hjs j z)]
      exact wipe_eq (wipe_length _ _) fun j hj => wipe_out hj
    · intro X2 hX2
      have eK2 : X2.K = X'.K := by obtain ⟨_, _, _, _, _, rfl⟩ := hX2; exact eK.symm
      have S4' : Sy X2.K B (Dl :: M0) (f ds[i] (wip ρ (own.map (·.2)))) μ σ4 H3 := by rw [eK2]; exact S4
      refine ht i ds[i] o X2 B _ σ4 H3 hdi hoi hX2 S4' S4'.all H3 (Ex.refl H3) _ fun H5 x5 => ?_
      have S5 := S4'.ex x5
      have a5 : H5 Dl = some (.lst acc) := x5 _ _ (x3 _ _ pa)
      have up5 : Ex (hid (Dl :: adr M0 μ) H') (hid (Dl :: adr M0 μ) H5) := hid_ex (x3.trans x5)
      cases o with
      | none =>
        show Pv (i + 1) H5
        exact ⟨(pe.trans x3).trans x5, acc, a5, by rw [fm_snoc hoi]; simpa using pd.ex up5⟩
      | some z =>
        intro X3 hX3
        have eK3 : X3.K = X2.K := by obtain ⟨_, _, _, _, _, rfl⟩ := hX3; exact eK.symm.trans eK2.symm
        have S5' : Sy X3.K B (Dl :: M0) (f ds[i] (wip ρ (own.map (·.2)))) μ σ4 H5 := by rw [eK3]; exact S5
        refine he i ds[i] z X3 B _ σ4 H5 hdi hoi hX3 S5' S5'.all H5 (Ex.refl H5) _ fun v H6 x6 pv => ?_
        refine ⟨acc, x6 _ _ a5, ?_, ?_⟩
        · have := pd.len
          have h2 := fm_len (out := out.take i)
          have h3 : (out.take i).length ≤ out.length := by rw [List.length_take]; omega
          exact sz_lt (by omega)
        · have a6 := x6 _ _ a5
          refine ⟨?_, acc ++ [v], upd_same, ?_⟩
          · exact Ex.mut (((pe.trans x3).trans x5).trans x6) hD
          · rw [hid_upd List.mem_cons_self, fm_snoc hoi]
            have pv' : Dp X.K (hid (adr (Dl :: M0) μ) H6) v z := by
              have e : X3.K = X.K := (eK3.trans eK2).trans eK
              rw [← e]; exact pv
            exact (pd.ex (up5.trans (hid_ex x6))).append (.cons (pv'.ex sameM) .nil)
  · obtain ⟨pe, acc, pa, pd⟩ := p
    have e : out.take ds.length = out := by rw [← hl, List.take_length]
    rw [e] at pd
    refine k Dl acc H' (x2.trans pe) ?_ pa pd
    cases q : H1 Dl with
    | none => rfl
    | some o => rw [x2 _ _ q] at hD; cases hD
theorem sy_lcN (S : Sy X.K B M0 ρ μ σ H) (hw : Jw X (adr M0 μ) tg iter σ H ds) (out : List (Option D)) (hl : out.length = ds.length) (hz : ds.length ≤ 90000) (f : D → Ro → Ro) (hjs : ∀ j ∈ js, j ∈ own.map (·.2))
    (hg : ∀ X' d, Blk X scope X' → d ∈ ds → Jg X' tg js d (wip ρ (own.map (·.2))) (f d (wip ρ (own.map (·.2)))))
    (ht : ∀ (i : Nat) (d : D) (o : Option D) X' B' M' σ' H', ds[i]? = some d → out[i]? = some o → Blk X scope X' → Sy X'.K B' M' (f d (wip ρ (own.map (·.2)))) μ σ' H' → Jts X' (adr M' μ) ifs σ' H' o.isSome)
    (he : ∀ (i : Nat) (d x : D) X' B' M' σ' H', ds[i]? = some d → out[i]? = some (some x) → Blk X scope X' → Sy X'.K B' M' (f d (wip ρ (own.map (·.2)))) μ σ' H' → Jd X' (adr M' μ) elt σ' H' x)
    (ok : BlkOk X.N X.env.scope scope own) (hc : X.calm = true) (hN : X.N.Nodup) (hs : ∀ x, foldedSetIterable iter X.env x = pure x := by intro _; rfl) :
    Jn X (adr M0 μ) (.ListComp elt [⟨tg, iter, ifs, 0⟩] scope pos) σ H (out.filterMap id) := fun al H1 x1 Q k =>
  leW (pe_lc (own := own) (g := tGb X scope tg) (tt := tTsb X scope ifs) (te := tWb X scope elt) hc hN pi_I ok (fun s H C cl fp => ⟨fun pins s' σ' H' v u Q' I r h => h _ ⟨s, H, C, cl, fp, rfl⟩ pins s' u I r⟩)
    (fun s H C cl fp => ⟨fun pins s' σ' H' Q' I h => h _ ⟨s, H, C, cl, fp, rfl⟩ pins s' I⟩) (fun s H C cl fp => ⟨fun pins s' σ' H' Q' I h => h _ ⟨s, H, C, cl, fp, rfl⟩ pins s' I⟩) hs) (lcN_tree S hw out hl hz f hjs hg ht he al x1 k)
/-- name = a comprehension: the tree of it is to be read -/
theorem tB_setLc (n : Nat) {y : Str} {py spos : Pos} {rest : List Stmt} {D' : Ends} (h : tLc (tI X tg iter) (tGb X scope tg) (tTsb X scope ifs) (tWb X scope elt) (own.map (·.2)) σ H fun v H' => tB X rest D' (σ.set n (some v)) H') (ok : BlkOk X.N X.env.scope scope own) (hc : X.calm = true) (hN : X.N.Nodup)
    (hy : X.N[n]? = some y := by rfl) (hyl : X.env.scope.names.lookup y = some .local := by rfl) (hsw : swapsWith (.ListComp elt [⟨tg, iter, ifs, 0⟩] scope pos) (some (.Name y py)) spos.line X.env = pure true := by rfl) (hs : ∀ x, foldedSetIterable iter X.env x = pure x := by intro _; rfl) :
    tB X (.Assign [.Name y py] (.ListComp elt [⟨tg, iter, ifs, 0⟩] scope pos) spos :: rest) D' σ H :=
  tB_cons (ps_setLc (own := own) (g := tGb X scope tg) (tt := tTsb X scope ifs) (te := tWb X scope elt) hc hN hy hyl hsw pi_I ok (fun s H C cl fp => ⟨fun pins s' σ' H' v u Q' I r h => h _ ⟨s, H, C, cl, fp, rfl⟩ pins s' u I r⟩)
    (fun s H C cl fp => ⟨fun pins s' σ' H' Q' I h => h _ ⟨s, H, C, cl, fp, rfl⟩ pins s' I⟩) (fun s H C cl fp => ⟨fun pins s' σ' H' Q' I h => h _ ⟨s, H, C, cl, fp, rfl⟩ pins s' I⟩) hs) h
theorem sy_lc (S : Sy X.K B M0 ρ μ σ H) (hw : Jw X (adr M0 μ) tg iter σ H ds) (out : List (Option D)) (hl : out.length = ds.length) (hz : ds.length ≤ 90000) (f : D → Ro → Ro) (hjs : ∀ j ∈ js, j ∈ own.map (·.2))
    (hg : ∀ X' d, Blk X scope X' → d ∈ ds → Jg X' tg js d (wip ρ (own.map (·.2))) (f d (wip ρ (own.map (·.2)))))
    (ht : ∀ (i : Nat) (d : D) (o : Option D) X' B' M' σ' H', ds[i]? = some d → out[i]? = some o → Blk X scope X' → Sy X'.K B' M' (f d (wip ρ (own.map (·.2)))) μ σ' H' → Jts X' (adr M' μ) ifs σ' H' o.isSome)
    (he : ∀ (i : Nat) (d x : D) X' B' M' σ' H', ds[i]? = some d → out[i]? = some (some x) → Blk X scope X' → Sy X'.K B' M' (f d (wip ρ (own.map (·.2)))) μ σ' H' → Jd X' (adr M' μ) elt σ' H' x)
    (ok : BlkOk X.N X.env.scope scope own) (hc : X.calm = true) (hN : X.N.Nodup) (hs : ∀ x, foldedSetIterable iter X.env x = pure x := by intro _; rfl) :
    Jd X (adr M0 μ) (.ListComp elt [⟨tg, iter, ifs, 0⟩] scope pos) σ H (.list (out.filterMap id)) := (sy_lcN S hw out hl hz f hjs hg ht he ok hc hN hs).jd
end
end J

set_option maxHeartbeats 4000000
/-! J4: defs of data, their calls; further statements. -/
namespace J
open PySem PySem.Spec PyProof.Rows L2 Evl RZ

/-- a def of the module: where it stands, its promise -/
structure Fd (CX : CXT) (P : Program) (w : World) (K : PySem.W.Frag) (mg : Str → Option Value) (base : Heap) (k : Nat) (x : Str) (ps : List Str) (sp : Sp) : Prop where
  ex : ∃ f fd, mg x = some (.ref f) ∧ PySem.W.keepIn K (.ref f) = true ∧ Binds K fd ps [] ∧ FnOk P w K mg base CX k f fd ps sp
/-- a def from data to a datum: R says which -/
def spD (K : PySem.W.Frag) (n : Nat) (R : List D → D → Prop) : Sp := fun vs H Q _ => ∃ (M : List Addr) (ds : List D) (d : D), ds.length = n ∧ Al M H ∧ DpAll K (hid M H) vs ds ∧ R ds d ∧ ∀ v H2, Ex H H2 → Dp K (hid M H2) v d → Q v H2
section
variable {P : Program} {w : World} {K : PySem.W.Frag} {mg : Str → Option Value} {base : Heap} {x : Str} {st : Stmt} {f : Addr} {fd : FuncData} {N ps : List Str} {k n : Nat}
/-- the context of such a def's body -/
abbrev bodyX (P : Program) (w : World) (K : PySem.W.Frag) (mg : Str → Option Value) (base : Heap) (N : List Str) (x : Str) (st : Stmt) (f : Addr) (cdv : Value) (A : Around) (outer : List Env) (s : Shared) (H : Hp) (E : XK) : Cx :=
  (cxOf CX0 P w K mg base N x (defScope st) f cdv A outer s H E).nox
theorem fd_mk {sp : Sp} {CX : CXT} (F : FunD K x x (defArgs st) (defBody st) (defScope st) [] [] f fd) (hm : mg x = some (.ref f)) (ok : FnOk P w K mg base CX k f fd ps sp)
    (hb : ∀ (kV doc pm : Value) (an : Option Addr) (cdv ct : Value) (us : List Value), us.length = ps.length → bindArgs (PySem.W.fnOf x x (defArgs st) (defBody st) (defScope st) .none kV doc pm an cdv ct) ⟨us, []⟩ = pure (ps.zip us)) : Fd CX P w K mg base k x ps sp :=
  ⟨⟨f, fd, hm, F.kp, F.bindsN hb, ok⟩⟩
theorem ok_D {q : Str} {R : List D → D → Prop} (F : FunD K x q (defArgs st) (defBody st) (defScope st) [] [] f fd) (S : FnScope N ps (defScope st)) (hn : ps.length = n)
    (body : ∀ (cdv : Value) (A : Around) (outer : List Env) (s : Shared) (H : Hp) (E : XK) (M : List Addr) (vs : List V) (ds : List D) (d : D) (D' : Ends), Room k (bodyX P w K mg base N q st f cdv A outer s H E).A → ds.length = n → R ds d →
      Sy K H M (ds.map (fun d => some (Sv.dat d)) ++ List.replicate (N.length - ds.length) none) [] (L2.start N vs) H → (∀ v H', Ex H H' → Dp K (hid M H') v d → D'.rt v H') → (d = .none → ∀ σ' H', Ex H H' → D'.nx σ' H') →
      tB (bodyX P w K mg base N q st f cdv A outer s H E) (defBody st) D' (L2.start N vs) H) : FnOk P w K mg base CX0 (k + 1) f fd ps (spD K n R) := by
  refine F.ok S (fun vs H Q E h => ?_) (fun cdv A outer s H vs Q E hr h => ?_)
  · obtain ⟨M, ds, d, h1, h2, h3, _⟩ := h
    rw [h3.len, h1, hn]
  · obtain ⟨M, ds, d, h1, al, h3, h4, h5⟩ := h
    refine ⟨_, PSs.nox pss_B, body cdv A outer s H E M vs ds d _ hr h1 h4 (sy_start al h3) (fun v H' x p => h5 v H' x p) fun e σ' H' x => h5 .non H' x (by rw [e]; exact .non)⟩
end
section
variable {X : Cx} {M : List Addr} {σ : L2.St} {H : Hp} {d : D} {ds : List D} {k n : Nat} {x : Str} {ps : List Str} {R : List D → D → Prop} {e : Expr} {es : List Expr} {p pos : Pos}
theorem jd_call (F : Fd CX0 X.prog X.w X.K X.mg X.base k x ps (spD X.K n R)) (hr : Room k X.A) (ha : Ja X M (e :: es) σ H ds) (hl : ds.length = n) (hR : R ds d) (hg : Gl X x := by rfl) (hdb : (x == ("__debug__" : Str)) = false := by decide)
    (he : starEach (e :: es) X.env = (false, eval e X.env) :: starEach es X.env := by rfl) (hpl : (backTo pos (starEach es X.env)).any (·.1) = false := by rfl) : Jd X M (.Call (.Name x p) (e :: es) [] pos) σ H d := fun al H1 y Q q => by
  obtain ⟨f, fd, hm, hk, hb, ok⟩ := F.ex
  refine leW (pe_call (E := E0) ok hr hg hm hk hb .nil pass0 pa_A hdb he hpl) (ha al H1 y _ fun vs H2 z r => ?_)
  show spD X.K n R (vs ++ []) H2 Q E0
  rw [List.append_nil]
  exact ⟨M, ds, d, hl, (al.ex y).ex z, r, hR, fun v H3 u t => q v H3 (z.trans u) t⟩
end
/-! ### a, b = x, y and so on -/
section
variable {X : Cx} {B H : Hp} {M0 : List Addr} {ρ : Ro} {μ : Mu} {σ : L2.St} {d d2 : D} {pos : Pos} {e a b : Expr} {rest A C body : List Stmt} {D' : Ends} {ds : List D}
theorem sy_par (i j : Nat) {x y : Str} {px py pt : Pos} {kt k2 pt2} (S : Sy X.K B M0 ρ μ σ H) (h : Jd X (adr M0 μ) a σ H d) (h2 : Jd X (adr M0 μ) b σ H d2) (k : ∀ σ' H', Sy X.K B M0 ((ρ.set i (some (.dat d))).set j (some (.dat d2))) μ σ' H' → tB X rest D' σ' H')
    (hc : X.calm = true) (hN : X.N.Nodup) (hij : i ≠ j) (hw : swappedStores [.Tuple [.Name x px, .Name y py] kt pt] (.Tuple [a, b] k2 pt2) X.env = pure (some [x, y])) (hi : X.N[i]? = some x := by rfl) (hj : X.N[j]? = some y := by rfl)
    (hx : X.env.scope.names.lookup x = some .local := by rfl) (hy : X.env.scope.names.lookup y = some .local := by rfl) (hs : swapsWithSole [.Tuple [.Name x px, .Name y py] kt pt] (.Tuple [a, b] k2 pt2) pos.line X.env = pure false := by rfl)
    (hs1 : starEach [a, b] X.env = (false, eval a X.env) :: starEach [b] X.env := by rfl) (hs2 : starEach [b] X.env = (false, eval b X.env) :: starEach [] X.env := by rfl) :
    tB X (.Assign [.Tuple [.Name x px, .Name y py] kt pt] (.Tuple [a, b] k2 pt2) pos :: rest) D' σ H :=
  tB_cons (ps_par hc hN hi hj hij hx hy (pa_cons pe_W (pa_cons pe_W pa_nil hs2) hs1) hw hs) (S.ev h fun v H1 S1 x1 p1 => S1.ev (h2.mono x1 S.all) fun v2 H2 S2 x2 p2 =>
    ⟨v, v2, rfl, k _ H2 ((S2.set i (s := .dat d) (p1.ex (hid_ex x2))).set j (s := .dat d2) p2)⟩)
/-- a target of any form -/
theorem sy_asg {tg : Expr} {js : List Nat} {ρ2 : Ro} (S : Sy X.K B M0 ρ μ σ H) (h : Jd X (adr M0 μ) e σ H d) (hg : Jg X tg js d ρ ρ2) (k : ∀ σ' H', Sy X.K B M0 ρ2 μ σ' H' → tB X rest D' σ' H')
    (hs : swapsWithSole [tg] e pos.line X.env = pure false := by rfl) (hw : swappedStores [tg] e X.env = pure none := by rfl) (h1 : (assignEach [tg] X.env).map (·.2) = [assign tg X.env] := by rfl) : tB X (.Assign [tg] e pos :: rest) D' σ H :=
  tB_cons (ps_asg pe_W pg_G hs hw h1) (S.ev h fun v H1 S1 x1 p1 => hg _ _ _ _ _ _ S1 p1 _ fun σ2 S2 _ _ => k σ2 H1 S2)
/-- while: I tells the state by a number that falls -/
theorem sy_while {c : Expr} (S : Sy X.K B M0 ρ μ σ H) (I : Nat → Ro → Mu → Prop) (m0 : Nat) (h0 : I m0 ρ μ)
    (hs : ∀ m ρ' μ' σ' H', I m ρ' μ' → Sy X.K B M0 ρ' μ' σ' H' → ∃ b, Jt X (adr M0 μ') c σ' H' b ∧
      (b = true → ∀ H2, Sy X.K B M0 ρ' μ' σ' H2 → tB X body ⟨fun σ2 H2 => ∃ m2 ρ2 μ2, m2 < m ∧ I m2 ρ2 μ2 ∧ Sy X.K B M0 ρ2 μ2 σ2 H2, D'.rt, tB X rest D', fun σ2 H2 => ∃ m2 ρ2 μ2, m2 < m ∧ I m2 ρ2 μ2 ∧ Sy X.K B M0 ρ2 μ2 σ2 H2⟩ σ' H2) ∧
      (b = false → ∀ H2, Sy X.K B M0 ρ' μ' σ' H2 → tB X rest D' σ' H2))
    (hp : PassesOwn (model X.prog X.w) X.A X.env X.xe) : tB X (.While c body [] pos :: rest) D' σ H :=
  tB_cons (ps_while hp pt_T pss_B) ⟨fun m σ' H' => ∃ ρ' μ', I m ρ' μ' ∧ Sy X.K B M0 ρ' μ' σ' H', ⟨m0, ρ, μ, h0, S⟩, fun m σ' H' ⟨ρ', μ', hI, S'⟩ => by
    obtain ⟨b, hb, h1, h2⟩ := hs m ρ' μ' σ' H' hI S'
    refine S'.te hb fun H2 S2 _ => ?_
    cases b with
    | true =>
      rw [if_pos rfl]
      exact ⟨fun σ2 H2 => ∃ m2 ρ2 μ2, m2 < m ∧ I m2 ρ2 μ2 ∧ Sy X.K B M0 ρ2 μ2 σ2 H2, fun σ3 H3 ⟨m2, ρ2, μ2, hm, hI2, S3⟩ => ⟨m2, hm, ρ2, μ2, hI2, S3⟩, h1 rfl H2 S2⟩
    | false => rw [if_neg Bool.false_ne_true]; exact h2 rfl H2 S2⟩
end
/-! ### further values -/
section
variable {X : Cx} {M : List Addr} {σ : L2.St} {H : Hp} {a b e : Expr} {d d' : D} {ds es : List D} {p pos : Pos} {i j : Int}
theorem jd_gcd {x : Str} (hm : X.mg x = some (.builtin "math.gcd")) (ha : Jd X M a σ H (.int i)) (hb : Jd X M b σ H (.int j)) (hg : Gl X x := by rfl) (hdb : (x == ("__debug__" : Str)) = false := by decide) (hs : starEach [a, b] X.env = (false, eval a X.env) :: starEach [b] X.env := by rfl)
    (hs2 : starEach [b] X.env = (false, eval b X.env) :: starEach [] X.env := by rfl) (hpl : (backTo pos (starEach [b] X.env)).any (·.1) = false := by rfl) : Jd X M (.Call (.Name x p) [a, b] [] pos) σ H (.int ((Nat.gcd i.natAbs j.natAbs : Nat) : Int)) := fun al H1 y Q q =>
  leW (pe_callBfun cr_gcd hg hm (pa_cons pe_W (pa_cons pe_W pa_nil hs2) hs) hdb hs hpl) (ha al H1 y _ fun v H2 z r => hb al H2 (y.trans z) _ fun w H3 u t => ⟨i, j, by rw [dInt r, dInt t], q _ H3 (z.trans u) (.int _)⟩)
theorem jd_int1 (hm : X.mg "int" = none) (ha : Jd X M a σ H (.int i)) (hg : Gl X "int" := by rfl) (hs : starEach [a] X.env = (false, eval a X.env) :: starEach [] X.env := by rfl) : Jd X M (.Call (.Name "int" p) [a] [] pos) σ H (.int i) :=
  jd_Ty1 call_int1 hm boot_int ha (fun v H1 Q _ r q => .inl ⟨i, by rw [dInt r], q _ H1 (Ex.refl _) (.int _)⟩) hg (by decide) (by decide) hs
theorem jd_abs (hm : X.mg "abs" = none) (ha : Jd X M a σ H (.int i)) (hg : Gl X "abs" := by rfl) (hs : starEach [a] X.env = (false, eval a X.env) :: starEach [] X.env := by rfl) : Jd X M (.Call (.Name "abs" p) [a] [] pos) σ H (.int ((i.natAbs : Nat) : Int)) :=
  jd_B1 call_abs hm (by decide +kernel) ha (fun v H1 Q _ r q => ⟨i, by rw [dInt r], by
    have e : (if i < 0 then -i else i) = ((i.natAbs : Nat) : Int) := by split <;> omega
    rw [e]
    exact q _ H1 (Ex.refl _) (.int _)⟩) hg (by decide) (by decide) hs
theorem jd_all {bs : List Bool} (hc : X.calm = true) (hm : X.mg "all" = none) (ha : Jd X M a σ H (.list (bs.map PyData.bool))) (hg : Gl X "all" := by rfl) (hs : starEach [a] X.env = (false, eval a X.env) :: starEach [] X.env := by rfl) :
    Jd X M (.Call (.Name "all" p) [a] [] pos) σ H (.bool (bs.all id)) :=
  jd_B1 (cr_all hc) hm (by decide +kernel) ha (fun v H1 Q _ r q => by
    obtain ⟨t, xs, e1, e2, e3⟩ := dLst r
    exact ⟨t, bs, by rw [e1], by rw [← dBlsV e3]; exact ex_l hid_le e2, q _ H1 (Ex.refl _) (.bl _)⟩) hg (by decide) (by decide) hs
theorem jd_sum {ns : List Int} (hc : X.calm = true) (hm : X.mg "sum" = none) (ha : Jd X M a σ H (.list (ns.map PyData.int))) (hg : Gl X "sum" := by rfl) (hs : starEach [a] X.env = (false, eval a X.env) :: starEach [] X.env := by rfl) :
    Jd X M (.Call (.Name "sum" p) [a] [] pos) σ H (.int ns.sum) :=
  jd_B1 (cr_sum hc) hm (by decide +kernel) ha (fun v H1 Q _ r q => by
    obtain ⟨t, xs, e1, e2, e3⟩ := dLst r
    exact ⟨t, ns, by rw [e1], by rw [← dIntsV e3]; exact ex_l hid_le e2, q _ H1 (Ex.refl _) (.int _)⟩) hg (by decide) (by decide) hs
theorem jd_tupOf (hm : X.mg "tuple" = none) (ha : Jd X M a σ H (.list ds)) (hg : Gl X "tuple" := by rfl) (hs : starEach [a] X.env = (false, eval a X.env) :: starEach [] X.env := by rfl) : Jd X M (.Call (.Name "tuple" p) [a] [] pos) σ H (.tuple ds) := fun al => by
  refine jd_Ty1 call_tuple_of hm boot_tuple ha (fun v H1 Q y r q => ?_) hg (by decide) (by decide) hs al
  obtain ⟨t, xs, e1, e2, e3⟩ := dLst r
  exact ⟨t, xs, by rw [e1], .inl ⟨ex_l hid_le e2, fun l hl => q _ _ (Ex.new hl) (.tup (SqT.of ((al.ex y).newEx hl)) (e3.ex (hid_ex (Ex.new hl))))⟩⟩
theorem jd_lstOf (hm : X.mg "list" = none) (ha : Jd X M a σ H d) (h : d = .list ds ∨ d = .tuple ds) (hg : Gl X "list" := by rfl) (hs : starEach [a] X.env = (false, eval a X.env) :: starEach [] X.env := by rfl) : Jd X M (.Call (.Name "list" p) [a] [] pos) σ H (.list ds) := fun al => by
  refine jd_Ty1 call_list_of hm (by decide +kernel) ha (fun v H1 Q y r q => ?_) hg (by decide) (by decide) hs al
  rcases h with rfl | rfl
  · obtain ⟨t, xs, e1, e2, e3⟩ := dLst r
    exact ⟨t, xs, by rw [e1], .inl (ex_l hid_le e2), fun l hl => q _ _ (Ex.new hl) (.lst (SqL.of ((al.ex y).newEx hl)) (e3.ex (hid_ex (Ex.new hl))))⟩
  · obtain ⟨t, xs, e1, e2, e3⟩ := dTup r
    exact ⟨t, xs, by rw [e1], .inr (ex_t hid_le e2), fun l hl => q _ _ (Ex.new hl) (.lst (SqL.of ((al.ex y).newEx hl)) (e3.ex (hid_ex (Ex.new hl))))⟩
theorem jd_min2 (hc : X.calm = true) (hm : X.mg "min" = none) (ha : Jd X M a σ H (.int i)) (hb : Jd X M b σ H (.int j)) (hg : Gl X "min" := by rfl) (hs : starEach [a, b] X.env = (false, eval a X.env) :: starEach [b] X.env := by rfl)
    (hs2 : starEach [b] X.env = (false, eval b X.env) :: starEach [] X.env := by rfl) (hpl : (backTo pos (starEach [b] X.env)).any (·.1) = false := by rfl) : Jd X M (.Call (.Name "min" p) [a, b] [] pos) σ H (.int (if j < i then j else i)) := fun al H1 y Q q =>
  leW (pe_callB (call_min2 hc) hg hm (by decide +kernel) (pa_cons pe_W (pa_cons pe_W pa_nil hs2) hs) (by decide) (by decide) hs hpl) (ha al H1 y _ fun v H2 z r => hb al H2 (y.trans z) _ fun w H3 u t => ⟨i, j, by rw [dInt r, dInt t], q _ H3 (z.trans u) (.int _)⟩)
/-- isinstance(e, T), T a built-in class -/
def tyD : D → String
  | .none => "NoneType"
  | .bool _ => "bool"
  | .int _ => "int"
  | .str _ => "str"
  | .list _ => "list"
  | .tuple _ => "tuple"
  | .dict _ => "dict"
/-- the answers for data -/
def dIsI : D → Bool
  | .int _ => true
  | .bool _ => true
  | _ => false
def dIsB : D → Bool
  | .bool _ => true
  | _ => false
def dIsS : D → Bool
  | .str _ => true
  | _ => false
def dIsL : D → Bool
  | .list _ => true
  | _ => false
def dIsT : D → Bool
  | .tuple _ => true
  | _ => false
def dIsD : D → Bool
  | .dict _ => true
  | _ => false
theorem kit_int : ∀ d : D, kitB (tyD d) "int" = some (dIsI d)
  | .none => (by decide +kernel : kitB "NoneType" "int" = some false)
  | .bool _ => (by decide +kernel : kitB "bool" "int" = some true)
  | .int _ => (by decide +kernel : kitB "int" "int" = some true)
  | .str _ => (by decide +kernel : kitB "str" "int" = some false)
  | .list _ => (by decide +kernel : kitB "list" "int" = some false)
  | .tuple _ => (by decide +kernel : kitB "tuple" "int" = some false)
  | .dict _ => (by decide +kernel : kitB "dict" "int" = some false)
theorem kit_bool : ∀ d : D, kitB (tyD d) "bool" = some (dIsB d)
  | .none => (by decide +kernel : kitB "NoneType" "bool" = some false)
  | .bool _ => (by decide +kernel : kitB "bool" "bool" = some true)
  | .int _ => (by decide +kernel : kitB "int" "bool" = some false)
  | .str _ => (by decide +kernel : kitB "str" "bool" = some false)
  | .list _ => (by decide +kernel : kitB "list" "bool" = some false)
  | .tuple _ => (by decide +kernel : kitB "tuple" "bool" = some false)
  | .dict _ => (by decide +kernel : kitB "dict" "bool" = some false)
theorem kit_str : ∀ d : D, kitB (tyD d) "str" = some (dIsS d)
  | .none => (by decide +kernel : kitB "NoneType" "str" = some false)
  | .bool _ => (by decide +kernel : kitB "bool" "str" = some false)
  | .int _ => (by decide +kernel : kitB "int" "str" = some false)
  | .str _ => (by decide +kernel : kitB "str" "str" = some true)
  | .list _ => (by decide +kernel : kitB "list" "str" = some false)
  | .tuple _ => (by decide +kernel : kitB "tuple" "str" = some false)
  | .dict _ => (by decide +kernel : kitB "dict" "str" = some false)
theorem kit_list : ∀ d : D, kitB (tyD d) "list" = some (dIsL d)
  | .none => (by decide +kernel : kitB "NoneType" "list" = some false)
  | .bool _ => (by decide +kernel : kitB "bool" "list" = some false)
  | .int _ => (by decide +kernel : kitB "int" "list" = some false)
  | .str _ => (by decide +kernel : kitB "str" "list" = some false)
  | .list _ => (by decide +kernel : kitB "list" "list" = some true)
  | .tuple _ => (by decide +kernel : kitB "tuple" "list" = some false)
  | .dict _ => (by decide +kernel : kitB "dict" "list" = some false)
theorem kit_tuple : ∀ d : D, kitB (tyD d) "tuple" = some (dIsT d)
  | .none => (by decide +kernel : kitB "NoneType" "tuple" = some false)
  | .bool _ => (by decide +kernel : kitB "bool" "tuple" = some false)
  | .int _ => (by decide +kernel : kitB "int" "tuple" = some false)
  | .str _ => (by decide +kernel : kitB "str" "tuple" = some false)
  | .list _ => (by decide +kernel : kitB "list" "tuple" = some false)
  | .tuple _ => (by decide +kernel : kitB "tuple" "tuple" = some true)
  | .dict _ => (by decide +kernel : kitB "dict" "tuple" = some false)
theorem kit_dict : ∀ d : D, kitB (tyD d) "dict" = some (dIsD d)
  | .none => (by decide +kernel : kitB "NoneType" "dict" = some false)
  | .bool _ => (by decide +kernel : kitB "bool" "dict" = some false)
  | .int _ => (by decide +kernel : kitB "int" "dict" = some false)
  | .str _ => (by decide +kernel : kitB "str" "dict" = some false)
  | .list _ => (by decide +kernel : kitB "list" "dict" = some false)
  | .tuple _ => (by decide +kernel : kitB "tuple" "dict" = some false)
  | .dict _ => (by decide +kernel : kitB "dict" "dict" = some true)
theorem tyX_of {K : PySem.W.Frag} {G : Hp} {v : V} (r : Dp K G v d) : TyX K G v (.type (tyD d)) := by
  cases r with
  | non => exact .base .non
  | bl b => exact .base (.bl b)
  | int i => exact .base (.int i)
  | str x => exact .base (.str x)
  | lst a b =>
    rcases a with (a | ⟨o, a⟩) | ⟨o, its, n, h1, h2, h3, h4, _⟩
    · exact .base (.lst a)
    · exact .base (.frz a)
    · exact .kList h1 h2
  | tup a b =>
    rcases a with (a | ⟨o, a⟩) | ⟨o, its, n, h1, h2, h4, _⟩
    · exact .base (.tup a)
    · exact .fTuple a
    · exact .kTuple h1 h2
theorem jd_isi {T : Str} {t : String} {k : Bool} {p2 : Pos} (hm : X.mg "isinstance" = none) (hT : X.mg T = none) (hv : bootBuiltins T = some (.type t)) (ha : Jd X M a σ H d) (hk : kitB (tyD d) t = some k) (hg : Gl X "isinstance" := by rfl) (hgT : Gl X T := by rfl) (hn : T ≠ "__name__" := by decide) (hd : (T == ("__debug__" : Str)) = false := by decide)
    (hs : starEach [a, .Name T p2] X.env = (false, eval a X.env) :: starEach [.Name T p2] X.env := by rfl) (hs2 : starEach [.Name T p2] X.env = (false, eval (.Name T p2) X.env) :: starEach [] X.env := by rfl) (hpl : (backTo pos (starEach [.Name T p2] X.env)).any (·.1) = false := by rfl) :
    Jd X M (.Call (.Name "isinstance" p) [a, .Name T p2] [] pos) σ H (.bool k) := fun al H1 y Q q =>
  leW (pe_callB call_isi hg hm (by decide +kernel) (pa_cons pe_W (pa_cons (pe_bltn (v := .ty t) hgT hT hv rfl hn hd) pa_nil hs2) hs) (by decide) (by decide) hs hpl) (ha al H1 y _ fun v H2 z r =>
    ⟨v, .ty t, .type (tyD d), .type t, k, rfl, .ty t, tyX_of (r.ex hid_le), kit_ty hk, q _ H2 z (.bl _)⟩)
end
end J

set_option maxHeartbeats 4000000
/-! J5: defs that may raise. -/
namespace J
open PySem PySem.Spec PyProof.Rows L2 Evl RZ
/-- from data to a datum (R), or an exception of some class comes out (Fl) -/
def spX (K : PySem.W.Frag) (n : Nat) (R : List D → D → Prop) (Fl : List D → Value → Prop) : Sp := fun vs H Q E => ∃ (M : List Addr) (ds : List D), ds.length = n ∧ Al M H ∧ DpAll K (hid M H) vs ds ∧
  ((∃ d, R ds d ∧ ∀ v H2, Ex H H2 → Dp K (hid M H2) v d → Q v H2) ∨ ∃ cls, Fl ds cls ∧ ∀ H2, Ex H H2 → E cls none H2)
abbrev bodyE (P : Program) (w : World) (K : PySem.W.Frag) (mg : Str → Option Value) (base : Heap) (N : List Str) (x : Str) (st : Stmt) (f : Addr) (cdv : Value) (A : Around) (outer : List Env) (s : Shared) (H : Hp) (E : XK) : Cx :=
  cxOf (CX P w) P w K mg base N x (defScope st) f cdv A outer s H E
section
variable {P : Program} {w : World} {K : PySem.W.Frag} {mg : Str → Option Value} {base : Heap} {x : Str} {st : Stmt} {f : Addr} {fd : FuncData} {N ps : List Str} {k n : Nat}
theorem bodyE_tk {cdv : Value} {A : Around} {outer : List Env} {s : Shared} {H : Hp} {E : XK} : Takes (bodyE P w K mg base N x st f cdv A outer s H E) (fun cls d _ H => E cls d H) := takes_of rfl rfl rfl rfl
theorem bodyE_pa {cdv : Value} {A : Around} {outer : List Env} {s : Shared} {H : Hp} {E : XK} : PassesOwn (model (bodyE P w K mg base N x st f cdv A outer s H E).prog (bodyE P w K mg base N x st f cdv A outer s H E).w) (bodyE P w K mg base N x st f cdv A outer s H E).A (bodyE P w K mg base N x st f cdv A outer s H E).env (bodyE P w K mg base N x st f cdv A outer s H E).xe := passes_of rfl
theorem ok_X {q : Str} {R : List D → D → Prop} {Fl : List D → Value → Prop} (F : FunD K x q (defArgs st) (defBody st) (defScope st) [] [] f fd) (S : FnScope N ps (defScope st)) (hn : ps.length = n)
    (body : ∀ (cdv : Value) (A : Around) (outer : List Env) (s : Shared) (H : Hp) (E : XK) (M : List Addr) (vs : List V) (ds : List D) (D' : Ends), Room k (bodyE P w K mg base N q st f cdv A outer s H E).A → ds.length = n →
      Sy K H M (ds.map (fun d => some (Sv.dat d)) ++ List.replicate (N.length - ds.length) none) [] (L2.start N vs) H →
      ((∃ d, R ds d ∧ (∀ v H', Ex H H' → Dp K (hid M H') v d → D'.rt v H') ∧ (d = .none → ∀ σ' H', Ex H H' → D'.nx σ' H')) ∨ ∃ cls, Fl ds cls ∧ ∀ H', Ex H H' → E cls none H') →
      tB (bodyE P w K mg base N q st f cdv A outer s H E) (defBody st) D' (L2.start N vs) H) : FnOk P w K mg base (CX P w) (k + 1) f fd ps (spX K n R Fl) := by
  refine F.ok S (fun vs H Q E h => ?_) (fun cdv A outer s H vs Q E hr h => ?_)
  · obtain ⟨M, ds, h1, h2, h3, _⟩ := h
    rw [h3.len, h1, hn]
  · obtain ⟨M, ds, h1, al, h3, h4⟩ := h
    refine ⟨_, pss_B, body cdv A outer s H E M vs ds _ hr h1 (sy_start al h3) ?_⟩
    rcases h4 with ⟨d, h5, h6⟩ | h4
    · exact .inl ⟨d, h5, fun v H' x p => h6 v H' x p, fun e σ' H' x => h6 .non H' x (by rw [e]; exact .non)⟩
    · exact .inr h4
end
theorem passE0 {X : Cx} : Passes (CX X.prog X.w) X E0 := fun _ _ _ _ _ _ _ c => by
  obtain ⟨_, _, _, _, _, _, _, _, _, _, _, _, h⟩ := c
  exact h.elim
section
variable {X : Cx} {M : List Addr} {σ : L2.St} {H : Hp} {d : D} {ds : List D} {k n : Nat} {x : Str} {ps : List Str} {R : List D → D → Prop} {Fl : List D → Value → Prop} {e : Expr} {es : List Expr} {p pos : Pos}
theorem jd_callX (F : Fd (CX X.prog X.w) X.prog X.w X.K X.mg X.base k x ps (spX X.K n R Fl)) (hr : Room k X.A) (ha : Ja X M (e :: es) σ H ds) (hl : ds.length = n) (hR : R ds d) (hg : Gl X x := by rfl) (hdb : (x == ("__debug__" : Str)) = false := by decide)
    (he : starEach (e :: es) X.env = (false, eval e X.env) :: starEach es X.env := by rfl) (hpl : (backTo pos (starEach es X.env)).any (·.1) = false := by rfl) : Jd X M (.Call (.Name x p) (e :: es) [] pos) σ H d := fun al H1 y Q q => by
  obtain ⟨f, fd, hm, hk, hb, ok⟩ := F.ex
  refine leW (pe_call (E := E0) ok hr hg hm hk hb .nil passE0 pa_A hdb he hpl) (ha al H1 y _ fun vs H2 z r => ?_)
  show spX X.K n R Fl (vs ++ []) H2 Q E0
  rw [List.append_nil]
  exact ⟨M, ds, hl, (al.ex y).ex z, r, .inl ⟨d, hR, fun v H3 u t => q v H3 (z.trans u) t⟩⟩
/-- .. it raises -/
theorem jx_call {E : XK} {cls : Value} {Q : VK} (F : Fd (CX X.prog X.w) X.prog X.w X.K X.mg X.base k x ps (spX X.K n R Fl)) (hr : Room k X.A) (tk : Takes X (fun cls d _ H => E cls d H)) (al : Al M H) (ha : Ja X M (e :: es) σ H ds) (hl : ds.length = n) (hF : Fl ds cls) (kE : ∀ H', Ex H H' → E cls none H')
    (hg : Gl X x := by rfl) (hdb : (x == ("__debug__" : Str)) = false := by decide) (he : starEach (e :: es) X.env = (false, eval e X.env) :: starEach es X.env := by rfl) (hpl : (backTo pos (starEach es X.env)).any (·.1) = false := by rfl) : tW X (.Call (.Name x p) (e :: es) [] pos) σ H Q := by
  obtain ⟨f, fd, hm, hk, hb, ok⟩ := F.ex
  refine leW (pe_call (E := E) ok hr hg hm hk hb .nil (passes_call tk fun _ _ _ _ h => h) pa_A hdb he hpl) (ha al H (Ex.refl H) _ fun vs H2 z r => ?_)
  show spX X.K n R Fl (vs ++ []) H2 Q E
  rw [List.append_nil]
  exact ⟨M, ds, hl, al.ex z, r, .inr ⟨cls, hF, fun H3 u => kE H3 (z.trans u)⟩⟩
end
section
variable {X : Cx} {B H : Hp} {M0 : List Addr} {ρ : Ro} {μ : Mu} {σ : L2.St} {d : D} {pos pos' : Pos} {e : Expr} {rest : List Stmt} {D' : Ends}
/-- an expression as a statement -/
theorem sy_expr (S : Sy X.K B M0 ρ μ σ H) (h : Jd X (adr M0 μ) e σ H d) (k : ∀ H', Sy X.K B M0 ρ μ σ H' → tB X rest D' σ H') (hs : swapsWith e none pos.line X.env = pure false := by rfl) : tB X (.Expr e pos :: rest) D' σ H :=
  tB_cons (ps_expr pe_W hs) (S.ev h fun v H' S' x p => k H' S')
theorem tB_exprX (h : tW X e σ H (fun _ H' => tB X rest D' σ H')) (hs : swapsWith e none pos.line X.env = pure false := by rfl) : tB X (.Expr e pos :: rest) D' σ H := tB_cons (ps_expr pe_W hs) h
theorem tB_raise {E : XK} {x m : Str} {j : Nat} {p p2 : Pos} {C : Addr} {newId initId : String} {bmB : List Value} {Bx : String} (Fx : ExcBaseFacts Bx newId initId bmB) (q : PySem.W.excIn X.K C bmB newId = true) (gC : X.mg x = some (.ref C)) (kC : PySem.W.keepIn X.K (.ref C) = true)
    (r : Raises X (.ref C)) (tk : Takes X (fun cls d _ H => E cls d H)) (h : E (.ref C) none H) (hc : X.calm = true := by rfl) (hg : Gl X x := by rfl) (hdb : (x == ("__debug__" : Str)) = false := by decide) : tB X (.Raise (some (.Call (.Name x p) [.Constant (.str m) j p2] [] pos)) none pos' :: rest) D' σ H :=
  tB_cons (ps_raise hc tk (pmk_own Fx q gC kC r hg hdb)) h
/-- .. of one's own class below ValueError -/
theorem tB_raiseV {E : XK} {x m : Str} {j : Nat} {p p2 : Pos} {C : Addr} (gx : PySem.W.excIn X.K C He.veBase "ValueError.__new__" = true ∧ PySem.W.keepIn X.K (.ref C) = true ∧ PySem.W.subIn X.K (.ref C) (.type "BaseException") = some true ∧ PySem.W.typeIn X.K (.ref C) = some (.type "type")) (gC : X.mg x = some (.ref C))
    (tk : Takes X (fun cls d _ H => E cls d H)) (h : E (.ref C) none H) (hc : X.calm = true := by rfl) (hg : Gl X x := by rfl) (hdb : (x == ("__debug__" : Str)) = false := by decide) : tB X (.Raise (some (.Call (.Name x p) [.Constant (.str m) j p2] [] pos)) none pos' :: rest) D' σ H :=
  tB_raise PySem.F.excBase_ValueError gx.1 gC gx.2.1 (raises_own gx.2.2.1 gx.2.2.2) tk h hc hg hdb
end
end J

set_option maxHeartbeats 4000000
/-! J6: objects that change. -/
namespace J
open PySem PySem.Spec PyProof.Rows L2 Evl RZ
section
variable {K : PySem.W.Frag} {B B' H H1 H2 : Hp} {M0 : List Addr} {ρ : Ro} {μ : Mu} {σ : L2.St} {d : D} {v : V}
theorem adr_set {i : Nat} {a : Addr} {m m' : Mo} (h : μ[i]? = some (a, m)) : adr M0 (μ.set i (a, m')) = adr M0 μ := by
  have hm : (μ.map (·.1))[i]? = some a := by rw [List.getElem?_map, h]; rfl
  unfold adr
  rw [List.map_set]
  congr 1
  refine List.ext_getElem? fun j => ?_
  by_cases hj : i = j
  · subst hj
    rw [hm, List.getElem?_set_self (List.getElem?_eq_some_iff.mp hm).1]
  · rw [List.getElem?_set_ne hj]
theorem Sy.own (S : Sy K B M0 ρ μ σ H) {i : Nat} {a : Addr} {m : Mo} (h : μ[i]? = some (a, m)) : m.holds K (hid (adr M0 μ) H) H a := S.ob _ (List.mem_of_getElem? h)
theorem Sy.inA {i : Nat} {a : Addr} {m : Mo} (h : μ[i]? = some (a, m)) : a ∈ adr M0 μ := List.mem_append_left _ (List.mem_map.mpr ⟨_, List.mem_of_getElem? h, rfl⟩)
theorem Sy.apart (S : Sy K B M0 ρ μ σ H) {i j : Nat} {a b : Addr} {m n : Mo} (h : μ[i]? = some (a, m)) (h2 : μ[j]? = some (b, n)) (hij : i ≠ j) : b ≠ a := fun e => by
  have h3 : (μ.map (·.1))[i]? = some a := by rw [List.getElem?_map, h]; rfl
  have h4 : (μ.map (·.1))[j]? = some a := by rw [List.getElem?_map, h2, ← e]; rfl
  exact hij ((List.getElem?_inj (List.getElem?_eq_some_iff.mp h3).1 S.dj.1).mp (h3.trans h4.symm))
/-- one of them changes -/
theorem Sy.upd (S : Sy K B M0 ρ μ σ H) {i : Nat} {a : Addr} {m : Mo} {o : HO} (m' : Mo) (h : μ[i]? = some (a, m)) (ho : m'.holds K (hid (adr M0 μ) H) (L2.upd H a o) a) : Sy K B M0 ρ (μ.set i (a, m')) σ (L2.upd H a o) := by
  have e : adr M0 (μ.set i (a, m')) = adr M0 μ := adr_set h
  have e2 : hid (adr M0 μ) (L2.upd H a o) = hid (adr M0 μ) H := hid_upd (Sy.inA h)
  have hi : i < μ.length := (List.getElem?_eq_some_iff.mp h).1
  have hmap : (μ.set i (a, m')).map (·.1) = μ.map (·.1) := List.append_cancel_right (show _ ++ M0 = _ ++ M0 from e)
  have mem : ∀ p ∈ μ.set i (a, m'), ∃ q ∈ μ, p.1 = q.1 := fun p hp => by
    have : p.1 ∈ (μ.set i (a, m')).map (·.1) := List.mem_map.mpr ⟨p, hp, rfl⟩
    rw [hmap] at this
    obtain ⟨q, hq, e⟩ := List.mem_map.mp this
    exact ⟨q, hq, e.symm⟩
  refine ⟨fun j s hj => ?_, S.ln, fun p hp => ?_, S.al.upd, fun b u hb => ?_, fun p hp => ?_, ?_⟩
  · rw [e, e2]; exact S.sl j s hj
  · rw [e, e2]
    obtain ⟨j, hj⟩ := List.mem_iff_getElem?.mp hp
    by_cases hji : j = i
    · subst hji
      rw [List.getElem?_set_self hi] at hj
      cases hj
      exact ho
    · rw [List.getElem?_set_ne (Ne.symm hji)] at hj
      refine (S.ob p (List.mem_of_getElem? hj)).mono (Ex.refl _) (upd_ne ?_)
      exact S.apart h (b := p.1) (n := p.2) hj (Ne.symm hji)
  · rw [upd_ne fun z => ?_]
    · exact S.bs b u hb
    · rw [z, S.nb _ (List.mem_of_getElem? h)] at hb; cases hb
  · obtain ⟨q, hq, z⟩ := mem p hp
    rw [z]; exact S.nb q hq
  · rw [hmap]
    refine ⟨S.dj.1, fun p hp => ?_⟩
    obtain ⟨q, hq, z⟩ := mem p hp
    rw [z]; exact S.dj.2 q hq
/-- a new one -/
theorem Sy.newN (S : Sy K B M0 ρ μ σ H1) {a : Addr} (m : Mo) (x : Ex H1 H2) (hn : H1 a = none) (ho : m.holds K (hid (a :: adr M0 μ) H2) H2 a) : Sy K B M0 ρ ((a, m) :: μ) σ H2 := by
  have hM : a ∉ adr M0 μ := S.all.out hn
  have up : Ex (hid (adr M0 μ) H1) (hid (a :: adr M0 μ) H2) := fun b o h => by
    by_cases hb : b ∈ adr M0 μ
    · rw [hid_in hb] at h; cases h
    · rw [hid_out hb] at h
      rw [hid_out fun z => ?_]
      · exact x _ _ h
      · rcases List.mem_cons.mp z with z | z
        · rw [z, hn] at h; cases h
        · exact hb z
  refine ⟨fun j s hj => let ⟨v, h1, h2⟩ := S.sl j s hj; ⟨v, h1, h2.ex up⟩, S.ln, fun p hp => ?_, S.al.ex x, S.bs.trans x, fun p hp => ?_, ?_⟩
  · rcases List.mem_cons.mp hp with rfl | hp
    · exact ho
    · obtain ⟨o, q⟩ := (S.ob p hp).some
      exact (S.ob p hp).mono up ((x _ _ q).trans q.symm)
  · rcases List.mem_cons.mp hp with rfl | hp
    · cases q : B a with
      | none => rfl
      | some o => exact absurd ((S.bs _ _ q).symm.trans hn) (by simp)
    · exact S.nb p hp
  · refine ⟨List.nodup_cons.mpr ⟨fun z => hM (List.mem_append_left _ z), S.dj.1⟩, fun p hp => ?_⟩
    rcases List.mem_cons.mp hp with rfl | hp
    · exact fun z => hM (List.mem_append_right _ z)
    · exact S.dj.2 p hp
/-- told in another sequence -/
theorem Sy.perm {μ' : Mu} (S : Sy K B M0 ρ μ σ H) (p : μ'.Perm μ) : Sy K B M0 ρ μ' σ H := by
  have e : hid (adr M0 μ') H = hid (adr M0 μ) H := by
    have : ∀ a, a ∈ adr M0 μ' ↔ a ∈ adr M0 μ := fun a => by
      unfold adr
      rw [List.mem_append, List.mem_append, (p.map (·.1)).mem_iff]
    funext a
    unfold hid
    by_cases h : a ∈ adr M0 μ
    · rw [if_pos h, if_pos ((this a).mpr h)]
    · rw [if_neg h, if_neg fun z => h ((this a).mp z)]
  exact ⟨by rw [e]; exact S.sl, S.ln, fun q hq => by rw [e]; exact S.ob q (p.mem_iff.mp hq), S.al, S.bs, fun q hq => S.nb q (p.mem_iff.mp hq), (p.map (·.1)).nodup_iff.mpr S.dj.1, fun q hq => S.dj.2 q (p.mem_iff.mp hq)⟩
/-- one is not ours any more -/
theorem Sy.drop1 {a : Addr} {m : Mo} (S : Sy K B M0 ρ ((a, m) :: μ) σ H) : Sy K B (M0) ρ μ σ H := by
  have sub : ∀ b ∈ adr M0 μ, b ∈ adr M0 ((a, m) :: μ) := fun b hb => List.mem_cons_of_mem _ hb
  exact ⟨fun i s h => let ⟨v, x, y⟩ := S.sl i s h; ⟨v, x, y.ex (hid_sub sub)⟩, S.ln, fun p hp => (S.ob p (List.mem_cons_of_mem _ hp)).mono (hid_sub sub) rfl, S.al, S.bs, fun p hp => S.nb p (List.mem_cons_of_mem _ hp), (List.nodup_cons.mp S.dj.1).2, fun p hp => S.dj.2 p (List.mem_cons_of_mem _ hp)⟩

/-! ### data in which no list stands, when a list is hidden -/
mutual
def noL : D → Bool
  | .list _ => false
  | .tuple ds => noLs ds
  | .dict _ => false
  | _ => true
def noLs : List D → Bool
  | [] => true
  | d :: ds => noL d && noLs ds
end
theorem sqT_hid {G : Hp} {M M' : List Addr} {a t : Addr} {xs vs : List V} (ha : H a = some (.lst vs)) (hM : ∀ b ∈ M, b = a ∨ b ∈ M') (h : SqT K (hid M' H) t xs) : SqT K (hid M H) t xs := by
  rcases h with (h | ⟨o, h⟩) | h
  · refine .inl (.inl ?_)
    by_cases ht : t ∈ M'
    · rw [hid_in ht] at h; cases h
    · rw [hid_out ht] at h
      rw [hid_out fun z => ?_]
      · exact h
      · rcases hM t z with z | z
        · rw [z, ha] at h; cases h
        · exact ht z
  · refine .inl (.inr ⟨o, ?_⟩)
    by_cases ht : t ∈ M'
    · rw [hid_in ht] at h; cases h
    · rw [hid_out ht] at h
      rw [hid_out fun z => ?_]
      · exact h
      · rcases hM t z with z | z
        · rw [z, ha] at h; cases h
        · exact ht z
  · exact .inr h
mutual
theorem dp_hid {M M' : List Addr} {a : Addr} {vs : List V} (ha : H a = some (.lst vs)) (hM : ∀ b ∈ M, b = a ∨ b ∈ M') : ∀ (d : D) (v : V), noL d = true → Dp K (hid M' H) v d → Dp K (hid M H) v d
  | .none, _, _, h => by cases h; exact .non
  | .bool b, _, _, h => by cases h; exact .bl b
  | .int i, _, _, h => by cases h; exact .int i
  | .str x, _, _, h => by cases h; exact .str x
  | .list ds, _, n, _ => by simp [noL] at n
  | .tuple ds, _, n, h => by cases h with | tup x y => exact .tup (sqT_hid (G := H) ha hM x) (dp_hidA ha hM ds _ (by simpa [noL] using n) y)
  | .dict _, _, _, h => by cases h
theorem dp_hidA {M M' : List Addr} {a : Addr} {vs : List V} (ha : H a = some (.lst vs)) (hM : ∀ b ∈ M, b = a ∨ b ∈ M') : ∀ (ds : List D) (ws : List V), noLs ds = true → DpAll K (hid M' H) ws ds → DpAll K (hid M H) ws ds
  | [], _, _, h => by cases h; exact .nil
  | d :: ds, _, n, h => by
    have n2 : noL d = true ∧ noLs ds = true := by simpa [noLs] using n
    cases h with | cons x y => exact .cons (dp_hid ha hM d _ n2.1 x) (dp_hidA ha hM ds _ n2.2 y)
end
/-- one's own list, looked at as a datum -/
theorem Sy.frz (S : Sy K B M0 ρ μ σ H) (n i : Nat) {a : Addr} {ds : List D} (hn : ρ[n]? = some (some (.val (.ref a)))) (hi : μ[i]? = some (a, .lst (ds.map .dat))) : Sy K B M0 (ρ.set n (some (.dat (.list ds)))) (μ.eraseIdx i) σ H := by
  have sub : ∀ b ∈ adr M0 (μ.eraseIdx i), b ∈ adr M0 μ := fun b hb => by
    rcases List.mem_append.mp hb with z | z
    · obtain ⟨p, hp, e⟩ := List.mem_map.mp z
      exact List.mem_append_left _ (List.mem_map.mpr ⟨p, List.mem_of_mem_eraseIdx hp, e⟩)
    · exact List.mem_append_right _ z
  have up := hid_sub (H := H) sub
  have hl : n < ρ.length := (List.getElem?_eq_some_iff.mp hn).1
  have nin : a ∉ adr M0 (μ.eraseIdx i) := fun z => by
    rcases List.mem_append.mp z with z | z
    · obtain ⟨p, hp, e⟩ := List.mem_map.mp z
      obtain ⟨j, hj, hp2⟩ := List.mem_eraseIdx_iff_getElem?.mp hp
      exact S.apart hi (b := p.1) (n := p.2) hp2 (Ne.symm hj) e
    · exact S.dj.2 _ (List.mem_of_getElem? hi) z
  obtain ⟨vs, h1, h2⟩ := S.own hi
  refine ⟨fun j s hj => ?_, by rw [List.length_set]; exact S.ln, fun p hp => (S.ob p (List.mem_of_mem_eraseIdx hp)).mono up rfl, S.al, S.bs, fun p hp => S.nb p (List.mem_of_mem_eraseIdx hp), ?_, fun p hp => S.dj.2 p (List.mem_of_mem_eraseIdx hp)⟩
  · by_cases hjn : j = n
    · subst hjn
      rw [List.getElem?_set_self hl] at hj
      cases hj
      obtain ⟨v, q1, q2⟩ := S.sl _ _ hn
      have q2 : v = .ref a := q2
      refine ⟨v, q1, ?_⟩
      rw [q2]
      have all : ∀ {ds : List D} {vs : List V}, Paired (fun s v => Sv.holds K (hid (adr M0 μ) H) s v) (ds.map .dat) vs → DpAll K (hid (adr M0 (μ.eraseIdx i)) H) vs ds := fun {ds} => by
        induction ds with
        | nil => intro vs h; cases h; exact .nil
        | cons d ds ih => intro vs h; cases h with | cons x y => exact .cons (Dp.ex x up) (ih y)
      exact .lst (SqL.of (by rw [hid_out nin]; exact h1)) (all h2)
    · rw [List.getElem?_set_ne (Ne.symm hjn)] at hj
      obtain ⟨v, q1, q2⟩ := S.sl _ _ hj
      exact ⟨v, q1, q2.ex up⟩
  · refine List.Nodup.sublist ((List.eraseIdx_sublist _ _).map _) S.dj.1
end
section
variable {X : Cx} {B H : Hp} {M0 : List Addr} {ρ : Ro} {μ : Mu} {σ : L2.St} {d : D} {pos : Pos} {e : Expr}
theorem Jd.thaw {a : Addr} {m : Mo} {vs : List V} {i : Nat} (h : Jd X (adr M0 (μ.eraseIdx i)) e σ H d) (hi : μ[i]? = some (a, m)) (ha : H a = some (.lst vs)) (hd : noL d = true) : Jd X (adr M0 μ) e σ H d := fun al H1 x Q q => by
  have hM : ∀ b ∈ adr M0 μ, b = a ∨ b ∈ adr M0 (μ.eraseIdx i) := fun b hb => by
    rcases List.mem_append.mp hb with z | z
    · obtain ⟨p, hp, e⟩ := List.mem_map.mp z
      obtain ⟨j, hj⟩ := List.mem_iff_getElem?.mp hp
      by_cases hji : j = i
      · subst hji
        rw [hi] at hj
        cases hj
        exact .inl e.symm
      · exact .inr (List.mem_append_left _ (List.mem_map.mpr ⟨p, List.mem_eraseIdx_iff_getElem?.mpr ⟨j, hji, hj⟩, e⟩))
    · exact .inr (List.mem_append_right _ z)
  have sub : ∀ b ∈ adr M0 (μ.eraseIdx i), b ∈ adr M0 μ := fun b hb => by
    rcases List.mem_append.mp hb with z | z
    · obtain ⟨p, hp, e⟩ := List.mem_map.mp z
      exact List.mem_append_left _ (List.mem_map.mpr ⟨p, List.mem_of_mem_eraseIdx hp, e⟩)
    · exact List.mem_append_right _ z
  exact h (fun b hb => al b (sub b hb)) H1 x Q fun v H2 y p => q v H2 y (dp_hid (y _ _ (x _ _ ha)) hM d v hd p)
theorem Jt.thaw {i : Nat} {b : Bool} (h : Jt X (adr M0 (μ.eraseIdx i)) e σ H b) : Jt X (adr M0 μ) e σ H b := fun al H1 x Q q => by
  have sub : ∀ b ∈ adr M0 (μ.eraseIdx i), b ∈ adr M0 μ := fun b hb => by
    rcases List.mem_append.mp hb with z | z
    · obtain ⟨p, hp, e⟩ := List.mem_map.mp z
      exact List.mem_append_left _ (List.mem_map.mpr ⟨p, List.mem_of_mem_eraseIdx hp, e⟩)
    · exact List.mem_append_right _ z
  exact h (fun b hb => al b (sub b hb)) H1 x Q q
end
end J

set_option maxHeartbeats 4000000
/-! J7: values that need not be data; frames; promises of defs that change objects. -/
namespace J
open PySem PySem.Spec PyProof.Rows L2 Evl RZ
def Js (X : Cx) (M : List Addr) (e : Expr) (σ : L2.St) (H : Hp) (s : Sv) : Prop := Al M H → ∀ H1, Ex H H1 → ∀ Q : VK, (∀ v H2, Ex H1 H2 → s.holds X.K (hid M H2) v → Q v H2) → tW X e σ H1 Q
def Jsa (X : Cx) (M : List Addr) (es : List Expr) (σ : L2.St) (H : Hp) (ss : List Sv) : Prop := Al M H → ∀ H1, Ex H H1 → ∀ Q : List V → Hp → Prop, (∀ vs H2, Ex H1 H2 → Paired (fun s v => Sv.holds X.K (hid M H2) s v) ss vs → Q vs H2) → tA X es σ H1 Q
section
variable {X : Cx} {M : List Addr} {σ : L2.St} {H : Hp} {e a b : Expr} {es : List Expr} {d : D} {v : V} {s : Sv} {ss : List Sv} {pos : Pos}
theorem Jd.js (h : Jd X M e σ H d) : Js X M e σ H (.dat d) := h
theorem Jv.js (h : Jv X e σ H v) : Js X M e σ H (.val v) := fun _ H1 x Q q => h H1 x Q fun H2 y => q v H2 y rfl
theorem jsa_nil : Jsa X M [] σ H [] := fun _ H1 _ Q q => leA pa_nil (q [] H1 (Ex.refl H1) .nil)
theorem jsa_cons (ha : Js X M e σ H s) (hr : Jsa X M es σ H ss) (hs : starEach (e :: es) X.env = (false, eval e X.env) :: starEach es X.env := by rfl) : Jsa X M (e :: es) σ H (s :: ss) := fun al H1 x Q q =>
  leA (pa_cons pe_W pa_A hs) (ha al H1 x _ fun v H2 y p => hr al H2 (x.trans y) _ fun vs H3 z r => q _ H3 (y.trans z) (.cons (p.ex (hid_ex z)) r))
end
section
variable {K : PySem.W.Frag} {B B' H H1 H2 H' : Hp} {M0 : List Addr} {ρ ρ' : Ro} {μ μ1 μ2 μ1' : Mu} {σ σ' : L2.St} {d : D} {v : V}
theorem adr_app : adr (adr M0 μ2) μ1 = adr M0 (μ1 ++ μ2) := by unfold adr; rw [List.map_append, List.append_assoc]
/-- some of the objects, the others stand by -/
theorem Sy.split (S : Sy K B M0 ρ (μ1 ++ μ2) σ H) : Sy K (J.grd μ1 H) (adr M0 μ2) ρ μ1 σ H := by
  have e : adr (adr M0 μ2) μ1 = adr M0 (μ1 ++ μ2) := adr_app
  have nd := S.dj.1
  rw [List.map_append] at nd
  refine ⟨by rw [e]; exact S.sl, S.ln, fun p hp => by rw [e]; exact S.ob p (List.mem_append_left _ hp), fun a ha => S.all a (by rw [← e]; exact List.mem_append_right _ ha), hid_le, fun p hp => hid_in (List.mem_map.mpr ⟨p, hp, rfl⟩), (List.nodup_append.mp nd).1, fun p hp z => ?_⟩
  rcases List.mem_append.mp z with z | z
  · exact (List.nodup_append.mp nd).2.2 _ (List.mem_map.mpr ⟨p, hp, rfl⟩) _ z rfl
  · exact S.dj.2 p (List.mem_append_left _ hp) z
theorem Sy.up2 (S' : Sy K (J.grd μ1 H) (adr M0 μ2) ρ' μ1' σ' H') : Ex (hid (adr M0 (μ1 ++ μ2)) H) (hid (adr M0 (μ1' ++ μ2)) H') := by
  have h := S'.low
  rw [adr_app] at h
  have e : hid (adr M0 μ2) (J.grd μ1 H) = hid (adr M0 (μ1 ++ μ2)) H := by
    unfold J.grd
    rw [hid_app]
    unfold adr
    rw [List.map_append, List.append_assoc]
  rw [e] at h
  exact h
theorem Sy.joinX (S : Sy K B M0 ρ (μ1 ++ μ2) σ H) (S' : Sy K (J.grd μ1 H) (adr M0 μ2) ρ' μ1' σ' H') : Sy K B M0 ρ' (μ1' ++ μ2) σ' H' := by
  have e : adr (adr M0 μ2) μ1' = adr M0 (μ1' ++ μ2) := adr_app
  have up := S'.up2
  have nd := S.dj.1
  rw [List.map_append] at nd
  have gB : Ex B (J.grd μ1 H) := fun a o h => by
    have hn : a ∉ μ1.map (·.1) := fun z => by
      obtain ⟨p, hp, q⟩ := List.mem_map.mp z
      rw [← q, S.nb p (List.mem_append_left _ hp)] at h; cases h
    show hid (μ1.map (·.1)) H a = some o
    rw [hid_out hn]
    exact S.bs a o h
  refine ⟨by rw [← e]; exact S'.sl, S'.ln, fun p hp => ?_, fun a ha => S'.al a (List.mem_append_right _ ha), gB.trans S'.bs, fun p hp => ?_, ?_, fun p hp => ?_⟩
  · rcases List.mem_append.mp hp with hp | hp
    · rw [← e]; exact S'.ob p hp
    · obtain ⟨o, q⟩ := (S.ob p (List.mem_append_right _ hp)).some
      have hn : p.1 ∉ μ1.map (·.1) := fun z => (List.nodup_append.mp nd).2.2 _ z _ (List.mem_map.mpr ⟨p, hp, rfl⟩) rfl
      exact (S.ob p (List.mem_append_right _ hp)).mono up ((S'.bs _ _ (show hid (μ1.map (·.1)) H p.1 = some o by rw [hid_out hn]; exact q)).trans q.symm)
  · rcases List.mem_append.mp hp with hp | hp
    · cases q : B p.1 with
      | none => rfl
      | some o => exact absurd ((gB _ _ q).symm.trans (S'.nb p hp)) (by simp)
    · exact S.nb p (List.mem_append_right _ hp)
  · rw [List.map_append]
    refine List.nodup_append.mpr ⟨S'.dj.1, (List.nodup_append.mp nd).2.1, fun x hx y hy z => ?_⟩
    obtain ⟨p, hp, rfl⟩ := List.mem_map.mp hx
    exact S'.dj.2 p hp (List.mem_append_left _ (z ▸ hy))
  · rcases List.mem_append.mp hp with hp | hp
    · exact fun z => S'.dj.2 p hp (List.mem_append_right _ z)
    · exact S.dj.2 p (List.mem_append_right _ hp)
theorem Sy.keep (S : Sy K B M0 ρ (μ1 ++ μ2) σ H) (S' : Sy K (J.grd μ1 H) (adr M0 μ2) ρ' μ1' σ' H') : Sy K B M0 ρ (μ1' ++ μ2) σ H' := by
  have J := S.joinX S'
  exact ⟨fun i s h => let ⟨v, x, y⟩ := S.sl i s h; ⟨v, x, y.ex S'.up2⟩, S.ln, J.ob, J.al, J.bs, J.nb, J.dj⟩
/-- other slots over the same objects -/
theorem Sy.reslot (S : Sy K B M0 ρ μ σ H) (hl : ρ'.length = σ'.length) (h : ∀ (i : Nat) (s : Sv), ρ'[i]? = some (some s) → ∃ v, σ'[i]? = some (some v) ∧ s.holds K (hid (adr M0 μ) H) v) : Sy K B M0 ρ' μ σ' H :=
  ⟨h, hl, S.ob, S.al, S.bs, S.nb, S.dj⟩
theorem Sy.args {ss : List Sv} {vs : List V} (S : Sy K B M0 ρ μ σ H) (p : Paired (fun s v => Sv.holds K (hid (adr M0 μ) H) s v) ss vs) : Sy K B M0 (ss.map some) μ (vs.map some) H :=
  S.reslot (by rw [List.length_map, List.length_map, paired_len p]) fun i s h => by
    rw [List.getElem?_map] at h
    obtain ⟨t, h1, h2⟩ := Option.map_eq_some_iff.mp h
    cases h2
    obtain ⟨v, h3, h4⟩ := paired_get p h1
    exact ⟨v, by rw [List.getElem?_map, h3]; rfl, h4⟩
theorem Sy.one {s : Sv} (S : Sy K B M0 ρ μ σ H) (p : s.holds K (hid (adr M0 μ) H) v) : Sy K B M0 [some s] μ [some v] H := Sy.args (ss := [s]) (vs := [v]) S (.cons p .nil)
theorem Sy.the {s : Sv} (S : Sy K B M0 [some s] μ [some v] H) : s.holds K (hid (adr M0 μ) H) v := by
  obtain ⟨w, h1, h2⟩ := S.sl 0 s rfl
  cases h1
  exact h2
end

/-! ### promises -/
/-- objects may change: Pre, what is asked; R, what comes of it; Fl, which exceptions may come out -/
def spM (K : PySem.W.Frag) (n : Nat) (Pre : List Sv → Mu → Prop) (R : List Sv → Mu → Sv → Mu → Prop) (Fl : List Sv → Mu → Value → Prop) : Sp := fun vs H Q E => ∃ (B : Hp) (M0 : List Addr) (ss : List Sv) (μ : Mu), ss.length = n ∧ Pre ss μ ∧ Sy K B M0 (ss.map some) μ (vs.map some) H ∧
  (∀ v s μ' H', R ss μ s μ' → Sy K B M0 [some s] μ' [some v] H' → Q v H') ∧ ∀ cls H', Fl ss μ cls → Ex B H' → E cls none H'
def noF : List Sv → Mu → Value → Prop := fun _ _ _ => False
section
variable {P : Program} {w : World} {K : PySem.W.Frag} {mg : Str → Option Value} {base : Heap} {x : Str} {st : Stmt} {f : Addr} {fd : FuncData} {N ps : List Str} {k n : Nat} {Pre : List Sv → Mu → Prop} {R : List Sv → Mu → Sv → Mu → Prop} {Fl : List Sv → Mu → Value → Prop}
theorem pad {B H : Hp} {M0 : List Addr} {μ : Mu} {ss : List Sv} {vs : List V} (S : Sy K B M0 (ss.map some) μ (vs.map some) H) : Sy K B M0 (ss.map some ++ List.replicate (N.length - ss.length) none) μ (L2.start N vs) H := by
  have hl : ss.length = vs.length := by have := S.ln; simpa using this
  refine S.reslot (by unfold L2.start; simp [hl]) fun i s h => ?_
  by_cases hi : i < ss.length
  · rw [List.getElem?_append_left (by simpa using hi)] at h
    obtain ⟨v, h1, h2⟩ := S.sl i s h
    refine ⟨v, ?_, h2⟩
    unfold L2.start
    rw [List.getElem?_append_left (by simpa using (by omega : i < vs.length)), h1]
  · rw [List.getElem?_append_right (by simpa using hi), List.getElem?_replicate] at h
    split at h <;> cases h
theorem ok_M {q : Str} (F : FunD K x q (defArgs st) (defBody st) (defScope st) [] [] f fd) (S : FnScope N ps (defScope st)) (hn : ps.length = n)
    (body : ∀ (cdv : Value) (A : Around) (outer : List Env) (s : Shared) (H : Hp) (E : XK) (B : Hp) (M0 : List Addr) (vs : List V) (ss : List Sv) (μ : Mu) (D' : Ends), Room k (bodyX P w K mg base N q st f cdv A outer s H E).A → ss.length = n → Pre ss μ →
      Sy K B M0 (ss.map some ++ List.replicate (N.length - ss.length) none) μ (L2.start N vs) H → (∀ v s μ' H', R ss μ s μ' → Sy K B M0 [some s] μ' [some v] H' → D'.rt v H') → (∀ μ' σ' ρ' H', R ss μ (.dat .none) μ' → Sy K B M0 ρ' μ' σ' H' → D'.nx σ' H') →
      tB (bodyX P w K mg base N q st f cdv A outer s H E) (defBody st) D' (L2.start N vs) H) : FnOk P w K mg base CX0 (k + 1) f fd ps (spM K n Pre R Fl) := by
  refine F.ok S (fun vs H Q E h => ?_) (fun cdv A outer s H vs Q E hr h => ?_)
  · obtain ⟨B, M0, ss, μ, h1, _, h3, _⟩ := h
    have := h3.ln
    rw [List.length_map, List.length_map] at this
    omega
  · obtain ⟨B, M0, ss, μ, h1, h2, h3, h4, _⟩ := h
    exact ⟨_, PSs.nox pss_B, body cdv A outer s H E B M0 vs ss μ _ hr h1 h2 (pad h3) h4 fun μ' σ' ρ' H' hR S' => h4 .non _ _ H' hR (S'.one .non)⟩
theorem ok_MX {q : Str} (F : FunD K x q (defArgs st) (defBody st) (defScope st) [] [] f fd) (S : FnScope N ps (defScope st)) (hn : ps.length = n)
    (body : ∀ (cdv : Value) (A : Around) (outer : List Env) (s : Shared) (H : Hp) (E : XK) (B : Hp) (M0 : List Addr) (vs : List V) (ss : List Sv) (μ : Mu) (D' : Ends), Room k (bodyE P w K mg base N q st f cdv A outer s H E).A → ss.length = n → Pre ss μ →
      Sy K B M0 (ss.map some ++ List.replicate (N.length - ss.length) none) μ (L2.start N vs) H → (∀ v s μ' H', R ss μ s μ' → Sy K B M0 [some s] μ' [some v] H' → D'.rt v H') → (∀ μ' σ' ρ' H', R ss μ (.dat .none) μ' → Sy K B M0 ρ' μ' σ' H' → D'.nx σ' H') → (∀ cls H', Fl ss μ cls → Ex B H' → E cls none H') →
      tB (bodyE P w K mg base N q st f cdv A outer s H E) (defBody st) D' (L2.start N vs) H) : FnOk P w K mg base (CX P w) (k + 1) f fd ps (spM K n Pre R Fl) := by
  refine F.ok S (fun vs H Q E h => ?_) (fun cdv A outer s H vs Q E hr h => ?_)
  · obtain ⟨B, M0, ss, μ, h1, _, h3, _⟩ := h
    have := h3.ln
    rw [List.length_map, List.length_map] at this
    omega
  · obtain ⟨B, M0, ss, μ, h1, h2, h3, h4, h5⟩ := h
    exact ⟨_, pss_B, body cdv A outer s H E B M0 vs ss μ _ hr h1 h2 (pad h3) h4 (fun μ' σ' ρ' H' hR S' => h4 .non _ _ H' hR (S'.one .non)) h5⟩
end
section
variable {X : Cx} {B H : Hp} {M0 : List Addr} {ρ : Ro} {μ μ1 μ2 : Mu} {σ : L2.St} {d : D} {pos p : Pos} {e : Expr} {es : List Expr} {k n : Nat} {x : Str} {ps : List Str} {Pre : List Sv → Mu → Prop} {R : List Sv → Mu → Sv → Mu → Prop} {Fl : List Sv → Mu → Value → Prop} {ss : List Sv} {vs : List V}
/-- a callee's promise, of some of the objects -/
theorem callM (S : Sy X.K B M0 ρ (μ1 ++ μ2) σ H) (hv : Paired (fun s v => Sv.holds X.K (hid (adr M0 (μ1 ++ μ2)) H) s v) ss vs) (hn : ss.length = n) (hp : Pre ss μ1) {Q : VK} {E : XK}
    (k : ∀ v s μ1' H', R ss μ1 s μ1' → Sy X.K B M0 ρ (μ1' ++ μ2) σ H' → s.holds X.K (hid (adr M0 (μ1' ++ μ2)) H') v → Q v H') (kE : ∀ cls H', Fl ss μ1 cls → Ex (J.grd μ1 H) H' → E cls none H') : spM X.K n Pre R Fl vs H Q E := by
  refine ⟨J.grd μ1 H, adr M0 μ2, ss, μ1, hn, hp, ?_, fun v s μ' H' hR S' => ?_, fun cls H' hF x => kE cls H' hF x⟩
  · have := S.args hv
    exact this.split
  · have h := S'.the
    rw [adr_app] at h
    exact k v s μ' H' hR (S.keep S') h
theorem jm_callE {Q : VK} (F : Fd CX0 X.prog X.w X.K X.mg X.base k x ps (spM X.K n Pre R Fl)) (hr : Room k X.A) (ha : tA X (e :: es) σ H fun vs H2 => spM X.K n Pre R Fl vs H2 Q E0) (hg : Gl X x := by rfl) (hdb : (x == ("__debug__" : Str)) = false := by decide)
    (he : starEach (e :: es) X.env = (false, eval e X.env) :: starEach es X.env := by rfl) (hpl : (backTo pos (starEach es X.env)).any (·.1) = false := by rfl) : tW X (.Call (.Name x p) (e :: es) [] pos) σ H Q := by
  obtain ⟨f, fd, hm, hk, hb, ok⟩ := F.ex
  refine leW (pe_call (E := E0) ok hr hg hm hk hb .nil pass0 pa_A hdb he hpl) ?_
  have e : (fun vs H2 => spM X.K n Pre R Fl vs H2 Q E0) = fun vs H1 => spM X.K n Pre R Fl (vs ++ []) H1 Q E0 := by funext vs H2; rw [List.append_nil]
  rw [e] at ha
  exact ha
theorem jm_call {Q : VK} (S : Sy X.K B M0 ρ (μ1 ++ μ2) σ H) (F : Fd CX0 X.prog X.w X.K X.mg X.base k x ps (spM X.K n Pre R noF)) (hr : Room k X.A) (ha : Jsa X (adr M0 (μ1 ++ μ2)) (e :: es) σ H ss) (hn : ss.length = n) (hp : Pre ss μ1)
    (kk : ∀ v s μ1' H', R ss μ1 s μ1' → Sy X.K B M0 ρ (μ1' ++ μ2) σ H' → s.holds X.K (hid (adr M0 (μ1' ++ μ2)) H') v → Q v H') (hg : Gl X x := by rfl) (hdb : (x == ("__debug__" : Str)) = false := by decide)
    (he : starEach (e :: es) X.env = (false, eval e X.env) :: starEach es X.env := by rfl) (hpl : (backTo pos (starEach es X.env)).any (·.1) = false := by rfl) : tW X (.Call (.Name x p) (e :: es) [] pos) σ H Q :=
  jm_callE F hr (ha S.all H (Ex.refl H) _ fun vs H2 x2 pv => callM (S.ex x2) pv hn hp kk fun _ _ h => h.elim) hg hdb he hpl
end
end J

set_option maxHeartbeats 4000000
/-! J8: what is done with objects that change. -/
namespace J
open PySem PySem.Spec PyProof.Rows L2 Evl RZ
theorem tW_mono {X : Cx} {e : Expr} {σ : L2.St} {H : Hp} {Q Q' : VK} (h : tW X e σ H Q) (m : ∀ v H', Q v H' → Q' v H') : tW X e σ H Q' := fun pins s I => thn (h pins s I) fun _ _ ⟨v, H', I', r, q⟩ => ⟨v, H', I', r, m v H' q⟩
theorem tA_mono {X : Cx} {es : List Expr} {σ : L2.St} {H : Hp} {Q Q' : List V → Hp → Prop} (h : tA X es σ H Q) (m : ∀ v H', Q v H' → Q' v H') : tA X es σ H Q' := fun pos pins s I => thn (h pos pins s I) fun _ _ ⟨v, H', I', r, q⟩ => ⟨v, H', I', r, m v H' q⟩
/-! ### lookups -/
def lkS {κ : Type} [DecidableEq κ] (kvs : List (κ × Sv)) (k : κ) : Option Sv := (kvs.find? fun kv => decide (kv.1 = k)).map (·.2)
def putS {κ : Type} [DecidableEq κ] (kvs : List (κ × Sv)) (k : κ) (s : Sv) : List (κ × Sv) :=
  if (kvs.any fun kv => decide (kv.1 = k)) = true then kvs.map (fun kv => if kv.1 = k then (kv.1, s) else kv) else kvs ++ [(k, s)]
def putFS (f : Str) (s : Sv) : List (Str × Sv) → List (Str × Sv)
  | [] => [(f, s)]
  | (g, x) :: r => if g = f then (g, s) :: r else (g, x) :: putFS f s r
section
variable {K : PySem.W.Frag} {G : Hp}
abbrev PrK {κ : Type} (K : PySem.W.Frag) (G : Hp) : κ × Sv → κ × V → Prop := fun p q => p.1 = q.1 ∧ p.2.holds K G q.2
theorem prk_find {κ : Type} [DecidableEq κ] {k : κ} {s : Sv} : ∀ {kvs : List (κ × Sv)} {vs : List (κ × V)}, Paired (PrK K G) kvs vs → lkS kvs k = some s → ∃ v, (vs.find? fun kv => decide (kv.1 = k)).map (·.2) = some v ∧ s.holds K G v
  | _, _, .nil, h => by simp [lkS] at h
  | (g, x) :: r, (g2, y) :: r2, .cons a t, h => by
    obtain ⟨e, hx⟩ := a
    have e : g = g2 := e
    subst e
    by_cases hg : g = k
    · simp only [lkS, List.find?_cons, hg, decide_true, Option.map_some, Option.some.injEq] at h
      refine ⟨y, by simp [List.find?_cons, hg], ?_⟩
      rw [← h]; exact hx
    · obtain ⟨v, h1, h2⟩ := prk_find (k := k) (s := s) t (by simpa [lkS, List.find?_cons, hg] using h)
      exact ⟨v, by simpa [List.find?_cons, hg] using h1, h2⟩
theorem prk_look {s : Sv} {f : Str} : ∀ {kvs : List (Str × Sv)} {vs : List (Str × V)}, Paired (PrK K G) kvs vs → kvs.lookup f = some s → ∃ v, vs.lookup f = some v ∧ s.holds K G v
  | _, _, .nil, h => by simp at h
  | (g, x) :: r, (g2, y) :: r2, .cons a t, h => by
    obtain ⟨e, hx⟩ := a
    have e : g = g2 := e
    subst e
    cases hg : (f == g) with
    | true =>
      simp only [List.lookup, hg, Option.some.injEq] at h
      refine ⟨y, by simp [List.lookup, hg], ?_⟩
      rw [← h]; exact hx
    | false =>
      obtain ⟨v, h1, h2⟩ := prk_look (f := f) (s := s) t (by simpa [List.lookup, hg] using h)
      exact ⟨v, by simpa [List.lookup, hg] using h1, h2⟩
theorem prk_any {κ : Type} [DecidableEq κ] {k : κ} : ∀ {kvs : List (κ × Sv)} {vs : List (κ × V)}, Paired (PrK K G) kvs vs → (kvs.any fun kv => decide (kv.1 = k)) = vs.any fun kv => decide (kv.1 = k)
  | _, _, .nil => rfl
  | (g, x) :: r, (g2, y) :: r2, .cons a t => by
    have e : g = g2 := a.1
    subst e
    rw [List.any_cons, List.any_cons, prk_any t]
theorem prk_map {κ : Type} [DecidableEq κ] {k : κ} {s : Sv} {v : V} (h : s.holds K G v) : ∀ {kvs : List (κ × Sv)} {vs : List (κ × V)}, Paired (PrK K G) kvs vs → Paired (PrK K G) (kvs.map (fun kv => if kv.1 = k then (kv.1, s) else kv)) (vs.map (fun kv => if kv.1 = k then (kv.1, v) else kv))
  | _, _, .nil => .nil
  | (g, x) :: r, (g2, y) :: r2, .cons a t => by
    have e : g = g2 := a.1
    subst e
    refine .cons ?_ (prk_map h t)
    by_cases hg : g = k
    · show PrK K G (if g = k then (g, s) else (g, x)) (if g = k then (g, v) else (g, y))
      rw [if_pos hg, if_pos hg]; exact ⟨rfl, h⟩
    · show PrK K G (if g = k then (g, s) else (g, x)) (if g = k then (g, v) else (g, y))
      rw [if_neg hg, if_neg hg]; exact a
theorem prk_put {κ : Type} [DecidableEq κ] {k : κ} {s : Sv} {v : V} (h : s.holds K G v) {kvs : List (κ × Sv)} {vs : List (κ × V)} (p : Paired (PrK K G) kvs vs) : Paired (PrK K G) (putS kvs k s) (putK vs k v) := by
  unfold putS putK
  rw [prk_any p]
  split
  · exact prk_map h p
  · exact paired_app p (.cons ⟨rfl, h⟩ .nil)
theorem prk_putF {f : Str} {s : Sv} {v : V} (h : s.holds K G v) : ∀ {kvs : List (Str × Sv)} {vs : List (Str × V)}, Paired (PrK K G) kvs vs → Paired (PrK K G) (putFS f s kvs) (putF f v vs)
  | _, _, .nil => .cons ⟨rfl, h⟩ .nil
  | (g, x) :: r, (g2, y) :: r2, .cons a t => by
    have e : g = g2 := a.1
    subst e
    show Paired (PrK K G) (if g = f then (g, s) :: r else (g, x) :: putFS f s r) (if g = f then (g, v) :: r2 else (g, y) :: putF f v r2)
    by_cases hg : g = f
    · rw [if_pos hg, if_pos hg]; exact .cons ⟨rfl, h⟩ t
    · rw [if_neg hg, if_neg hg]; exact .cons a (prk_putF h t)
theorem paired_snoc {α β : Type} {F : α → β → Prop} : ∀ {xs : List α} {x : α} {vs : List β}, Paired F (xs ++ [x]) vs → ∃ ws w, vs = ws ++ [w] ∧ Paired F xs ws ∧ F x w
  | [], x, _, .cons a .nil => ⟨[], _, rfl, .nil, a⟩
  | y :: ys, x, _, .cons a t => by
    obtain ⟨ws, w, e, p, q⟩ := paired_snoc t
    exact ⟨_ :: ws, w, by rw [e]; rfl, .cons a p, q⟩
theorem paired_dat : ∀ {ds : List D} {vs : List V}, DpAll K G vs ds → Paired (fun s v => Sv.holds K G s v) (ds.map .dat) vs
  | [], _, h => by cases h; exact .nil
  | d :: ds, _, h => by cases h with | cons a b => exact .cons a (paired_dat b)
end
section
variable {X : Cx} {B H : Hp} {M0 : List Addr} {ρ : Ro} {μ μ' : Mu} {σ : L2.St} {d : D} {v : V} {pos pos' apos p : Pos} {e o b : Expr} {es : List Expr} {s : Sv} {ss : List Sv} {a C dx : Addr} {i : Nat} {fs : List (Str × Sv)} {kvs : List (Key × Sv)} {rest : List Stmt} {D' : Ends} {ds : List D}
theorem Sy.evS (S : Sy X.K B M0 ρ μ σ H) (h : Js X (adr M0 μ) e σ H s) {Q : VK} (k : ∀ v H', Sy X.K B M0 ρ μ σ H' → Ex H H' → s.holds X.K (hid (adr M0 μ) H') v → Q v H') : tW X e σ H Q :=
  h S.all H (Ex.refl H) Q fun v H' x p => k v H' (S.ex x) x p
theorem Sy.evV (S : Sy X.K B M0 ρ μ σ H) (h : Jv X e σ H v) {Q : VK} (k : ∀ H', Sy X.K B M0 ρ μ σ H' → Ex H H' → Q v H') : tW X e σ H Q :=
  h H (Ex.refl H) Q fun H' x => k H' (S.ex x) x
/-- x = e, e any -/
theorem sy_setE (n : Nat) {x : Str} {p' : Pos} (h : tW X e σ H fun v H' => tB X rest D' (σ.set n (some v)) H') (hN : X.N.Nodup) (hi : X.N[n]? = some x := by rfl)
    (hx : Loc X.env.scope x := by first | exact Or.inl rfl | exact Or.inr rfl) (hs : swapsWith e (some (.Name x p')) pos.line X.env = pure false := by rfl) (hf : X.fn x = true ∨ X.env.scope.names.lookup x = some .local := by first | exact .inl rfl | exact .inr rfl) :
    tB X (.Assign [.Name x p'] e pos :: rest) D' σ H := tB_cons (ps_set hN hi hx pe_W hs hf) h
theorem sy_retE (h : tW X e σ H D'.rt) : tB X (.Return (some e) pos :: rest) D' σ H := tB_cons (ps_ret pe_W) h
/-- x = a new list -/
theorem Sy.evN (S : Sy X.K B M0 ρ μ σ H) (h : Jn X (adr M0 μ) e σ H ds) {Q : VK} (k : ∀ a H', Sy X.K B M0 ρ ((a, .lst (ds.map .dat)) :: μ) σ H' → Q (.ref a) H') : tW X e σ H Q :=
  h S.all H (Ex.refl H) Q fun a vs H2 y hn ha p => k a H2 (S.newN (.lst (ds.map .dat)) y hn ⟨vs, ha, paired_dat p⟩)
/-- fields -/
theorem js_fld {f : Str} (S : Sy X.K B M0 ρ μ σ H) (he : Jv X e σ H (.ref a)) (hi : μ[i]? = some (a, .ins C dx fs)) (hf : fs.lookup f = some s) (c : Cls X.K C) (hn : NoAttr X.K C f) (hb : attributeBase e f X.env (eval e X.env) = eval e X.env := by rfl) : Js X (adr M0 μ) (.Attribute e f pos) σ H s := fun al H1 x Q q => by
  obtain ⟨vs, h1, h2⟩ := S.own hi
  obtain ⟨v, h3, h4⟩ := prk_look h2 hf
  exact leW (pe_fld pe_W hb) (he H1 x _ fun H2 y => ⟨a, C, dx, vs, v, rfl, (x.trans y) _ _ h1, c, hn, h3, q v H2 y (h4.ex (hid_ex (x.trans y)))⟩)
theorem sy_fldset {f : Str} (S : Sy X.K B M0 ρ μ σ H) (hv : Js X (adr M0 μ) e σ H s) (ho : Jv X o σ H (.ref a)) (hi : μ[i]? = some (a, .ins C dx fs)) (c : Cls X.K C) (hn : NoAttr X.K C f) (hl : fs.length < 1000) (k : ∀ H', Sy X.K B M0 ρ (μ.set i (a, .ins C dx (putFS f s fs))) σ H' → tB X rest D' σ H')
    (hs : swapsWith e (some (.Attribute o f pos')) pos.line X.env = pure false := by rfl) : tB X (.Assign [.Attribute o f pos'] e pos :: rest) D' σ H :=
  tB_cons (ps_fld pe_W pe_W hs) (S.evS hv fun v H1 S1 x1 p1 => S1.evV (ho.mono x1) fun H2 S2 x2 => by
    obtain ⟨vs, h1, h2⟩ := S2.own hi
    exact ⟨a, C, dx, vs, rfl, h1, c, hn, by rw [← paired_len h2]; exact hl, k _ (S2.upd _ hi ⟨_, upd_same, prk_putF (p1.ex (hid_ex x2)) h2⟩)⟩)
/-- d[x], x a text -/
theorem js_dget {x : Str} {j : Nat} {p2 : Pos} (hu : X.A.units + 1 < cLine) (S : Sy X.K B M0 ρ μ σ H) (he : Jv X e σ H (.ref a)) (hi : μ[i]? = some (a, .dct kvs)) (hf : lkS kvs (.inr x) = some s) (hs : NoSl (.Constant (.str x) j p2) := by intro _ _; rfl) : Js X (adr M0 μ) (.Subscript e (.Constant (.str x) j p2) pos) σ H s := fun al H1 y Q q => by
  obtain ⟨vs, h1, h2⟩ := S.own hi
  obtain ⟨v, h3, h4⟩ := prk_find h2 hf
  exact leW (pe_dget hu pe_W pe_str hs) (he H1 y _ fun H2 z => ⟨a, v, rfl, .inl ⟨vs, .inr x, .inl ((y.trans z) _ _ h1), rfl, h3.symm⟩, q v H2 z (h4.ex (hid_ex (y.trans z)))⟩)
theorem sy_dput {x : Str} {j : Nat} {p2 : Pos} (hu : X.A.units + 1 < cLine) (S : Sy X.K B M0 ρ μ σ H) (hv : Js X (adr M0 μ) e σ H s) (ho : Jv X o σ H (.ref a)) (hi : μ[i]? = some (a, .dct kvs)) (hl : kvs.length < 1000) (k : ∀ H', Sy X.K B M0 ρ (μ.set i (a, .dct (putS kvs (.inr x) s))) σ H' → tB X rest D' σ H')
    (hs : swapsWith e (some (.Subscript o (.Constant (.str x) j p2) pos')) pos.line X.env = pure false := by rfl) : tB X (.Assign [.Subscript o (.Constant (.str x) j p2) pos'] e pos :: rest) D' σ H :=
  tB_cons (ps_dput hu pe_W pe_str pe_W hs) (S.evS hv fun v H1 S1 x1 p1 => S1.evV (ho.mono x1) fun H2 S2 x2 => by
    obtain ⟨vs, h1, h2⟩ := S2.own hi
    exact ⟨a, _, rfl, .inl ⟨vs, .inr x, h1, rfl, by rw [← paired_len h2]; exact sz_lt (by omega), rfl⟩, k _ (S2.upd _ hi ⟨_, upd_same, prk_put (p1.ex (hid_ex x2)) h2⟩)⟩)
/-- .. the value made with effects: what is left is the store -/
theorem sy_dputE {x : Str} {j : Nat} {p2 : Pos} (hu : X.A.units + 1 < cLine) (h : tW X e σ H fun v H1 => ∃ (B : Hp) (M0 : List Addr) (ρ : Ro) (μ : Mu) (s : Sv) (i : Nat) (a : Addr) (kvs : List (Key × Sv)), Sy X.K B M0 ρ μ σ H1 ∧ s.holds X.K (hid (adr M0 μ) H1) v ∧ Jv X o σ H1 (.ref a) ∧ μ[i]? = some (a, .dct kvs) ∧ kvs.length < 1000 ∧
      ∀ H', Sy X.K B M0 ρ (μ.set i (a, .dct (putS kvs (.inr x) s))) σ H' → tB X rest D' σ H')
    (hs : swapsWith e (some (.Subscript o (.Constant (.str x) j p2) pos')) pos.line X.env = pure false := by rfl) : tB X (.Assign [.Subscript o (.Constant (.str x) j p2) pos'] e pos :: rest) D' σ H := by
  refine tB_cons (ps_dput hu pe_W pe_str pe_W hs) (tW_mono h ?_)
  rintro v H1 ⟨B, M0, ρ, μ, s, i, a, kvs, S1, p1, ho, hi, hl, k⟩
  refine S1.evV ho fun H2 S2 x2 => ?_
  obtain ⟨vs, h1, h2⟩ := S2.own hi
  exact ⟨a, _, rfl, .inl ⟨vs, .inr x, h1, rfl, by rw [← paired_len h2]; exact sz_lt (by omega), rfl⟩, k _ (S2.upd _ hi ⟨_, upd_same, prk_put (p1.ex (hid_ex x2)) h2⟩)⟩
/-- lists -/
theorem jm_pop {xs : List Sv} (S : Sy X.K B M0 ρ μ σ H) (ho : Jv X o σ H (.ref a)) (hi : μ[i]? = some (a, .lst (xs ++ [s]))) {Q : VK} (k : ∀ v H', Sy X.K B M0 ρ (μ.set i (a, .lst xs)) σ H' → s.holds X.K (hid (adr M0 (μ.set i (a, .lst xs))) H') v → Q v H')
    (hbase : attributeBase o "pop" X.env (eval o X.env) = eval o X.env := by rfl) (hline : (apos.endLine == pos.line) = true := by rfl) : tW X (.Call (.Attribute o "pop" apos) [] [] pos) σ H Q :=
  leW (pe_bm0 PySem.F.plainAttrs_list PySem.F.slot_list_pop PySem.F.type_list_pop mt_pop pe_W hbase hline) (S.evV ho fun H2 S2 x2 => by
    obtain ⟨vs, h1, h2⟩ := S2.own hi
    obtain ⟨ws, w, rfl, h3, h4⟩ := paired_snoc h2
    refine ⟨.inl ⟨rfl, _, .inl (.inl h1)⟩, a, ws ++ [w], w, rfl, rfl, h1, by simp, ?_⟩
    rw [List.dropLast_concat]
    refine k w _ (S2.upd _ hi ⟨ws, upd_same, h3⟩) ?_
    rw [adr_set hi, hid_upd (Sy.inA hi)]
    exact h4)
theorem jm_pop0 {xs : List Sv} {j : Nat} {p2 : Pos} (S : Sy X.K B M0 ρ μ σ H) (ho : Js X (adr M0 μ) o σ H (.val (.ref a))) (hi : μ[i]? = some (a, .lst (s :: xs))) (hl : xs.length < 1000000) {Q : VK} (k : ∀ v H', Sy X.K B M0 ρ (μ.set i (a, .lst xs)) σ H' → s.holds X.K (hid (adr M0 (μ.set i (a, .lst xs))) H') v → Q v H')
    (hbase : attributeBase o "pop" X.env (eval o X.env) = eval o X.env := by rfl)
    (hfew : ((backTo pos (starEach [.Constant (.int 0) j p2] X.env)).all (fun x => !x.1) && (backToKw pos (keywordEach [] X.env)).all (fun x => x.1.isSome)
      && decide (([.Constant (.int 0) j p2] : List Expr).length + ([] : List Keyword).length + (if ([] : List Keyword).isEmpty then 0 else 1) < 30)) = true := by rfl)
    (hline : (apos.endLine == pos.line) = true := by rfl) (hs : starEach [.Constant (.int 0) j p2] X.env = (false, eval (.Constant (.int 0) j p2) X.env) :: starEach [] X.env := by rfl) (hplain : (backTo pos (starEach [] X.env)).any (·.1) = false := by rfl) : tW X (.Call (.Attribute o "pop" apos) [.Constant (.int 0) j p2] [] pos) σ H Q :=
  leW (pe_bm PySem.F.plainAttrs_list PySem.F.slot_list_pop PySem.F.type_list_pop mt_popAt pe_W (pa_cons pe_int pa_nil hs) hbase hfew hline hs hplain) (S.evS ho fun u H2 S2 x2 pu => by
    have pu : u = .ref a := pu
    subst pu
    obtain ⟨vs, h1, h2⟩ := S2.own hi
    cases h2 with
    | @cons x w ys ws q1 q2 =>
      refine ⟨.inl ⟨rfl, _, .inl (.inl h1)⟩, a, w :: ws, 0, 0, w, rfl, rfl, h1, by decide, by decide, ?_, rfl, ?_⟩
      · have := paired_len q2
        unfold seqIndex?
        simp
      · show Q w (upd H2 a (.lst ((w :: ws).eraseIdx 0)))
        refine k w _ (S2.upd _ hi ⟨ws, upd_same, q2⟩) ?_
        rw [adr_set hi, hid_upd (Sy.inA hi)]
        exact q1)
end
end J

set_option maxHeartbeats 4000000
/-! J9: more of what is done with objects that change: stores, displays, instances, comprehensions with effects. -/
namespace J
open PySem PySem.Spec PyProof.Rows L2 Evl RZ
section
variable {X : Cx} {B H : Hp} {M0 : List Addr} {ρ : Ro} {μ μ' : Mu} {σ : L2.St} {d : D} {v : V} {pos pos' apos p : Pos} {e o b : Expr} {es : List Expr} {s : Sv} {ss : List Sv} {a C dx : Addr} {i : Nat} {fs : List (Str × Sv)} {kvs : List (Key × Sv)} {rest : List Stmt} {D' : Ends} {ds : List D}
/-- xs[n] = e -/
theorem sy_setIx {xs : List Sv} {n : Nat} {z : Int} (S : Sy X.K B M0 ρ μ σ H) (hv : Js X (adr M0 μ) e σ H s) (ho : Jv X o σ H (.ref a)) (hx : Jd X (adr M0 μ) b σ H (.int z)) (hi : μ[i]? = some (a, .lst xs)) (hz : z = (n : Int)) (hn : n < xs.length) (k : ∀ H', Sy X.K B M0 ρ (μ.set i (a, .lst (xs.set n s))) σ H' → tB X rest D' σ H')
    (ha : ∀ v, assign (.Subscript o b pos') X.env v = (do
      let ov ← holding [v] (eval o X.env)
      let iv ← holding [v, ov] (eval b X.env)
      standAt pos'
      holding [v, ov, iv] (setItem ov iv v)
      release [v, ov, iv] []) := by intro _; rfl)
    (hs : swapsWithSole [.Subscript o b pos'] e pos.line X.env = pure false := by rfl) (hw : swappedStores [.Subscript o b pos'] e X.env = pure none := by rfl) (h1 : (assignEach [.Subscript o b pos'] X.env).map (·.2) = [assign (.Subscript o b pos') X.env] := by rfl) : tB X (.Assign [.Subscript o b pos'] e pos :: rest) D' σ H :=
  tB_cons (ps_asg pe_W (pg_sub pe_W pe_W set_list ha) hs hw h1) (S.evS hv fun v H1 S1 x1 p1 => S1.evV (ho.mono x1) fun H2 S2 x2 => S2.ev (hx.mono (x1.trans x2) S.all) fun w H3 S3 x3 p3 => by
    obtain ⟨vs, h1, h2⟩ := S3.own hi
    have hl := paired_len h2
    refine ⟨a, vs, z, n, rfl, dInt p3, h1, ?_, k _ (S3.upd _ hi ⟨_, upd_same, paired_set (p1.ex (hid_ex (x2.trans x3))) h2⟩)⟩
    unfold ixN
    rw [hz, if_pos (Int.natCast_nonneg n), if_pos (by omega)]
    rfl)
/-- [e] as a new list; [e] * n -/
theorem jn_lst {M : List Addr} (h : Ja X M es σ H ds) (hz : ds.length ≤ 100000 := by first | (simp only [List.length_cons, List.length_nil]; omega) | omega | decide) : Jn X M (.List es pos) σ H ds := fun al H1 x Q q =>
  leW (pe_lst pa_A) (h al H1 x _ fun vs H2 y p => ⟨by rw [p.len]; exact sz_of hz, fun a ha => q a vs _ (y.trans (Ex.new ha)) (by
    cases z : H1 a with
    | none => rfl
    | some o => rw [y _ _ z] at ha; cases ha) upd_same (by rw [hid_new ha]; exact p)⟩)
theorem flat1 {α : Type} (n : Nat) (x : α) : (List.replicate n [x]).flatten = List.replicate n x := by
  induction n with
  | zero => rfl
  | succ n ih => rw [List.replicate_succ, List.flatten_cons, ih]; rfl
theorem jn_rep {M : List Addr} {z : Int} {d : D} (h : Ja X M es σ H [d]) (hb : Jd X M b σ H (.int z)) (h0 : 0 ≤ z) (hz : z ≤ 90000) : Jn X M (.BinOp (.List es pos') .Mult b pos) σ H (List.replicate z.toNat d) := fun al H1 x Q q =>
  leW (pe_op op_rep (pe_lst pa_A) pe_W) (h al H1 x _ fun vs H2 y p => by
    obtain ⟨v, rfl⟩ : ∃ v, vs = [v] := by
      have := p.len
      match vs, this with
      | [v], _ => exact ⟨v, rfl⟩
    refine ⟨sz_of (by simp), fun a ha => hb al _ ((x.trans y).trans (Ex.new ha)) _ fun w H3 u r => ?_⟩
    cases p with
    | cons pv pn =>
      obtain rfl := dInt r
      refine ⟨a, z, [v], rfl, rfl, u _ _ upd_same, by omega, by omega, sz_of (by simp; omega), fun c hc => ?_⟩
      rw [flat1]
      have e13 : Ex H2 H3 := (Ex.new ha).trans u
      refine q c _ _ ((y.trans e13).trans (Ex.new hc)) ?_ upd_same ?_
      · cases z' : H1 c with
        | none => rfl
        | some o => rw [e13 _ _ (y _ _ z')] at hc; cases hc
      · rw [hid_new hc]
        have pv3 : Dp X.K (hid M H3) v d := pv.ex (hid_ex e13)
        induction z.toNat with
        | zero => exact .nil
        | succ n ih => rw [List.replicate_succ, List.replicate_succ]; exact .cons pv3 ih)
/-- xs.append(e), xs.extend(a new list), as statements -/
theorem sy_app {xs : List Sv} (S : Sy X.K B M0 ρ μ σ H) (ho : Jv X o σ H (.ref a)) (hv : Js X (adr M0 μ) e σ H s) (hi : μ[i]? = some (a, .lst xs)) (hz : xs.length ≤ 90000) (k : ∀ H', Sy X.K B M0 ρ (μ.set i (a, .lst (xs ++ [s]))) σ H' → tB X rest D' σ H')
    (hsw : swapsWith (.Call (.Attribute o "append" apos) [e] [] pos) none pos'.line X.env = pure false := by rfl)
    (hbase : attributeBase o "append" X.env (eval o X.env) = eval o X.env := by rfl)
    (hfew : ((backTo pos (starEach [e] X.env)).all (fun x => !x.1) && (backToKw pos (keywordEach [] X.env)).all (fun x => x.1.isSome)
      && decide (([e] : List Expr).length + ([] : List Keyword).length + (if ([] : List Keyword).isEmpty then 0 else 1) < 30)) = true := by rfl)
    (hline : (apos.endLine == pos.line) = true := by rfl) (hs : starEach [e] X.env = (false, eval e X.env) :: starEach [] X.env := by rfl) (hplain : (backTo pos (starEach [] X.env)).any (·.1) = false := by rfl) : tB X (.Expr (.Call (.Attribute o "append" apos) [e] [] pos) pos' :: rest) D' σ H :=
  tB_exprX (leW (pe_bm PySem.F.plainAttrs_list PySem.F.slot_list_append PySem.F.type_list_append mt_append pe_W (pa_cons pe_W pa_nil hs) hbase hfew hline hs hplain) (S.evV ho fun H1 S1 x1 => by
    obtain ⟨vs, h1, h2⟩ := S1.own hi
    refine ⟨.inl ⟨rfl, _, .inl (.inl h1)⟩, ?_⟩
    refine hv S.all H1 x1 _ fun v H2 x2 p2 => ?_
    have S2 := S1.ex x2
    obtain ⟨vs, h1, h2⟩ := S2.own hi
    have hl := paired_len h2
    exact ⟨a, vs, v, rfl, rfl, h1, sz_lt (by omega), k _ (S2.upd _ hi ⟨_, upd_same, paired_app h2 (.cons p2 .nil)⟩)⟩)) hsw
theorem sy_ext {xs : List Sv} (S : Sy X.K B M0 ρ μ σ H) (ho : Jv X o σ H (.ref a)) (hv : Jn X (adr M0 μ) e σ H ds) (hi : μ[i]? = some (a, .lst xs)) (hz : xs.length + ds.length ≤ 90000) (k : ∀ H', Sy X.K B M0 ρ (μ.set i (a, .lst (xs ++ ds.map .dat))) σ H' → tB X rest D' σ H')
    (hsw : swapsWith (.Call (.Attribute o "extend" apos) [e] [] pos) none pos'.line X.env = pure false := by rfl)
    (hbase : attributeBase o "extend" X.env (eval o X.env) = eval o X.env := by rfl)
    (hfew : ((backTo pos (starEach [e] X.env)).all (fun x => !x.1) && (backToKw pos (keywordEach [] X.env)).all (fun x => x.1.isSome)
      && decide (([e] : List Expr).length + ([] : List Keyword).length + (if ([] : List Keyword).isEmpty then 0 else 1) < 30)) = true := by rfl)
    (hline : (apos.endLine == pos.line) = true := by rfl) (hs : starEach [e] X.env = (false, eval e X.env) :: starEach [] X.env := by rfl) (hplain : (backTo pos (starEach [] X.env)).any (·.1) = false := by rfl) : tB X (.Expr (.Call (.Attribute o "extend" apos) [e] [] pos) pos' :: rest) D' σ H :=
  tB_exprX (leW (pe_bm PySem.F.plainAttrs_list PySem.F.slot_list_extend PySem.F.type_list_extend mt_extend pe_W (pa_cons pe_W pa_nil hs) hbase hfew hline hs hplain) (S.evV ho fun H1 S1 x1 => by
    obtain ⟨vs, h1, h2⟩ := S1.own hi
    refine ⟨.inl ⟨rfl, _, .inl (.inl h1)⟩, ?_⟩
    refine hv S.all H1 x1 _ fun c ws H2 x2 hn hc pw => ?_
    have S2 := S1.ex x2
    obtain ⟨vs, h1, h2⟩ := S2.own hi
    have hl := paired_len h2
    have hl2 := pw.len
    refine ⟨a, c, vs, ws, rfl, rfl, h1, hc, sz_of (by omega), k _ (S2.upd _ hi ⟨_, upd_same, paired_app h2 (paired_dat (pw.ex (hid_sub fun b hb => List.mem_cons_of_mem _ hb)))⟩)⟩)) hsw
end
theorem prk_lookN {K : PySem.W.Frag} {G : Hp} {f : Str} : ∀ {kvs : List (Str × Sv)} {vs : List (Str × V)}, Paired (PrK K G) kvs vs → kvs.lookup f = none → vs.lookup f = none
  | _, _, .nil, _ => rfl
  | (g, x) :: r, (g2, y) :: r2, .cons a t, h => by
    have e : g = g2 := a.1
    subst e
    cases hg : (f == g) with
    | true => simp [List.lookup, hg] at h
    | false =>
      have := prk_lookN (f := f) t (by simpa [List.lookup, hg] using h)
      simpa [List.lookup, hg] using this
/-! ### dict displays -/
def Jps (X : Cx) (M : List Addr) (trs : List (TE × TE)) (σ : L2.St) (H : Hp) (kvs : List (Key × Sv)) : Prop := Al M H → ∀ H1, Ex H H1 → ∀ Q : List (V × V) → Hp → Prop,
  (∀ vs H2, Ex H1 H2 → Paired (PrK X.K (hid M H2)) kvs vs → Q (vs.map fun kv => (kV kv.1, kv.2)) H2) → tPairs trs σ H1 Q
theorem prk_ex {K : PySem.W.Frag} {G G' : Hp} (e : Ex G G') {kvs : List (Key × Sv)} {vs : List (Key × V)} (h : Paired (PrK K G) kvs vs) : Paired (PrK K G') kvs vs := paired2_ex e h
section
variable {X : Cx} {B H : Hp} {M M0 : List Addr} {ρ : Ro} {μ : Mu} {σ : L2.St} {pos : Pos} {e : Expr} {s : Sv} {kvs : List (Key × Sv)} {trs : List (TE × TE)}
theorem jps_nil : Jps X M [] σ H [] := fun _ H1 _ Q q => q [] H1 (Ex.refl H1) .nil
theorem jps_cons {x : Str} (h : Js X M e σ H s) (r : Jps X M trs σ H kvs) : Jps X M ((tC (.str x), tW X e) :: trs) σ H ((.inr x, s) :: kvs) := fun al H1 y Q q =>
  h al H1 y _ fun v H2 z p => r al H2 (y.trans z) _ fun vs H3 u t => q ((.inr x, v) :: vs) H3 (z.trans u) (.cons ⟨rfl, p.ex (hid_ex u)⟩ t)
end
def mergeS (kvs more : List (Key × Sv)) : List (Key × Sv) := more.foldl (fun acc kv => putS acc kv.1 kv.2) kvs
theorem prk_merge {K : PySem.W.Frag} {G : Hp} : ∀ {more : List (Key × Sv)} {mv : List (Key × V)} {kvs : List (Key × Sv)} {vs : List (Key × V)}, Paired (PrK K G) more mv → Paired (PrK K G) kvs vs → Paired (PrK K G) (mergeS kvs more) (mergeK vs mv)
  | _, _, _, _, .nil, h => h
  | (k, s) :: r, (k2, v) :: r2, _, _, .cons a t, h => by
    have e : k = k2 := a.1
    subst e
    have := prk_merge t (prk_put (k := k) a.2 h)
    exact this
theorem jm_dict {X : Cx} {B H : Hp} {M0 : List Addr} {ρ : Ro} {μ : Mu} {σ : L2.St} {pos : Pos} {kvs : List (Key × Sv)} {trs : List (TE × TE)} {keys : List (Option Expr)} {values : List Expr} (S : Sy X.K B M0 ρ μ σ H) (hp : PPs X pos keys values trs) (h : ∀ p H', Sy X.K B M0 ρ ((p, .dct []) :: μ) σ H' → Jps X (adr M0 ((p, .dct []) :: μ)) trs σ H' kvs) {Q : VK}
    (k : ∀ a H', Sy X.K B M0 ρ ((a, .dct (mergeS [] kvs)) :: μ) σ H' → Q (.ref a) H') (hall : keys.all (·.isSome) = true := by rfl) (hl : keys.length = values.length := by rfl) (h0 : keys ≠ [] := by intro h; cases h) (h15 : keys.length ≤ 15 := by decide) (hkl : kvs.length ≤ 15 := by simp) : tW X (.Dict keys values pos) σ H Q :=
  leW (pe_disp hp hall hl h0 h15) fun p hn => by
    have S1 := S.newN (.dct []) (Ex.new hn) hn ⟨[], upd_same, .nil⟩
    refine h p _ S1 S1.all _ (Ex.refl _) _ fun vs H2 x2 pv => ?_
    have hp2 : H2 p = some (.dK []) := x2 _ _ upd_same
    have S2 := S1.ex x2
    refine ⟨hp2, vs, rfl, by rw [← paired_len pv]; exact hkl, k p _ ?_⟩
    exact S2.upd (i := 0) (.dct (mergeS [] kvs)) (o := .dK (mergeK [] vs)) rfl ⟨_, upd_same, prk_merge pv .nil⟩
/-! ### instances -/
section
variable {X : Cx} {CX : CXT} {B H : Hp} {M0 : List Addr} {ρ : Ro} {μ : Mu} {σ : L2.St} {pos p apos : Pos} {e o : Expr} {es : List Expr} {s : Sv} {ss : List Sv} {C f a dx : Addr} {fd : FuncData} {ps : List Str} {k n : Nat} {x m : Str} {E : XK} {Pre : List Sv → Mu → Prop} {R : List Sv → Mu → Sv → Mu → Prop} {Fl : List Sv → Mu → Value → Prop} {fs : List (Str × Sv)}
theorem make_core (S : Sy X.K B M0 ρ μ σ H) {vs : List V} (pv : Paired (fun s v => Sv.holds X.K (hid (adr M0 μ) H) s v) ss vs) (hn : (ss.length + 1) = n) (hp : ∀ x0 dx, Pre (.val (.ref x0) :: ss) [(x0, .ins C dx [])]) {Q : VK} (hR : ∀ ss' μ' s μ'', R ss' μ' s μ'' → s = .dat .none)
    (kk : ∀ x0 dx μ' H', R (.val (.ref x0) :: ss) [(x0, .ins C dx [])] (.dat .none) μ' → Sy X.K B M0 ρ (μ' ++ μ) σ H' → Q (.ref x0) H') (kE : ∀ x0 dx cls H', Fl (.val (.ref x0) :: ss) [(x0, .ins C dx [])] cls → Ex H H' → E cls none H') (x0 dx : Addr) (h1 : H x0 = none) (h2 : H dx = none) (h3 : dx ≠ x0) :
    spM X.K n Pre R Fl (.ref x0 :: vs) (upd (upd H dx (.own x0)) x0 (.ins C dx [])) (fun v H2 => v = .non ∧ Q (.ref x0) H2) E := by
  have hn1 : upd H dx (.own x0) x0 = none := by rw [upd_ne (Ne.symm h3)]; exact h1
  have x1 : Ex H (upd (upd H dx (.own x0)) x0 (.ins C dx [])) := (Ex.new h2).trans (Ex.new hn1)
  have S1 := S.newN (.ins C dx []) x1 h1 ⟨[], upd_same, .nil⟩
  have hM : x0 ∉ adr M0 μ := S.all.out h1
  have up : Ex (hid (adr M0 μ) H) (hid (adr M0 ((x0, .ins C dx []) :: μ)) (upd (upd H dx (.own x0)) x0 (.ins C dx []))) := fun b o h => by
    by_cases hb : b ∈ adr M0 μ
    · rw [hid_in hb] at h; cases h
    · rw [hid_out hb] at h
      rw [hid_out fun z => ?_]
      · exact x1 _ _ h
      · rcases List.mem_cons.mp (show b ∈ x0 :: adr M0 μ from z) with z | z
        · rw [z, h1] at h; cases h
        · exact hb z
  have pv1 : ∀ {ss : List Sv} {vs : List V}, Paired (fun s v => Sv.holds X.K (hid (adr M0 μ) H) s v) ss vs → Paired (fun s v => Sv.holds X.K (hid (adr M0 ((x0, .ins C dx []) :: μ)) (upd (upd H dx (.own x0)) x0 (.ins C dx []))) s v) ss vs := fun h => paired_ex up h
  refine callM (μ1 := [(x0, .ins C dx [])]) (μ2 := μ) S1 (ss := .val (.ref x0) :: ss) (.cons rfl (pv1 pv)) hn (hp x0 dx) (fun v s μ' H' r S' h => ?_) (fun cls H' hF x => kE x0 dx cls H' hF (fun b o hb => x b o ?_))
  · have e := hR _ _ _ _ r
    subst e
    exact ⟨dNon h, kk x0 dx μ' H' r S'⟩
  · show hid [x0] _ b = some o
    rw [hid_out (by intro z; rw [List.mem_singleton.mp z, h1] at hb; cases hb)]
    exact x1 _ _ hb
theorem jm_make (S : Sy X.K B M0 ρ μ σ H) (M : Mk X.K C f) (F : FnOk X.prog X.w X.K X.mg X.base CX k f fd ps (spM X.K n Pre R Fl)) (hb : Binds X.K fd ps []) (hr : Room (k + 1) X.A) (hm : X.mg x = some (.ref C)) (hx : Passes CX X E)
    (ha : Jsa X (adr M0 μ) (e :: es) σ H ss) (hn : (ss.length + 1) = n) (hp : ∀ x0 dx, Pre (.val (.ref x0) :: ss) [(x0, .ins C dx [])]) {Q : VK} (hR : ∀ ss' μ' s μ'', R ss' μ' s μ'' → s = .dat .none)
    (kk : ∀ x0 dx μ' H', R (.val (.ref x0) :: ss) [(x0, .ins C dx [])] (.dat .none) μ' → Sy X.K B M0 ρ (μ' ++ μ) σ H' → Q (.ref x0) H') (kE : ∀ x0 dx cls H', Fl (.val (.ref x0) :: ss) [(x0, .ins C dx [])] cls → Ex H H' → E cls none H') (hg : Gl X x := by rfl)
    (hdb : (x == ("__debug__" : Str)) = false := by decide) (he : starEach (e :: es) X.env = (false, eval e X.env) :: starEach es X.env := by rfl) (hpl : (backTo pos (starEach es X.env)).any (·.1) = false := by rfl) : tW X (.Call (.Name x p) (e :: es) [] pos) σ H Q :=
  leW (pe_make M F hr hg hm hb .nil hx pa_A hdb he hpl) (ha S.all H (Ex.refl H) _ fun vs H2 x2 pv x0 dx h1 h2 h3 => by
    rw [List.append_nil]
    exact make_core (S.ex x2) pv hn hp hR kk (fun x0 dx cls H' hF x => kE x0 dx cls H' hF (x2.trans x)) x0 dx h1 h2 h3)
/-- a method without arguments -/
theorem jm_meth0 {pl : Sem Bool} {μ1 μ2 : Mu} (S : Sy X.K B M0 ρ (μ1 ++ μ2) σ H) (ho : Jv X o σ H (.ref a)) {i : Nat} (hi : μ1[i]? = some (a, .ins C dx fs)) (hf : fs.lookup m = none) (c : Cls X.K C) (hm : Meth X.K C m f) (F : FnOk X.prog X.w X.K X.mg X.base CX k f fd ps (spM X.K 1 Pre R Fl)) (hb : Binds X.K fd ps []) (hr : Room k X.A) (hx : Passes CX X E)
    (hp : Pre [.val (.ref a)] μ1) {Q : VK} (kk : ∀ v s μ1' H', R [.val (.ref a)] μ1 s μ1' → Sy X.K B M0 ρ (μ1' ++ μ2) σ H' → s.holds X.K (hid (adr M0 (μ1' ++ μ2)) H') v → Q v H') (kE : ∀ cls H', Fl [.val (.ref a)] μ1 cls → Ex B H' → E cls none H')
    (ht : eval (.Call (.Attribute o m apos) [] [] pos) X.env = (do
      let ov ← eval o X.env
      standAt apos.atName
      let (f, first) ← holding [ov] (getMethod ov m pl)
      callWith pos f first (backTo pos (starEach [] X.env)) (backToKw pos (keywordEach [] X.env))) := by rfl) : tW X (.Call (.Attribute o m apos) [] [] pos) σ H Q :=
  leW (pe_meth0 pe_W c hm F hr hb .nil hx ht) (S.evV ho fun H1 S1 x1 => by
    obtain ⟨hil, _⟩ := List.getElem?_eq_some_iff.mp hi
    have hi2 : (μ1 ++ μ2)[i]? = some (a, .ins C dx fs) := by rw [List.getElem?_append_left hil]; exact hi
    obtain ⟨vs, h1, h2⟩ := S1.own hi2
    refine ⟨a, dx, vs, rfl, h1, ?_, ?_⟩
    · exact prk_lookN h2 hf
    · exact callM S1 (ss := [.val (.ref a)]) (.cons rfl .nil) rfl hp kk (fun cls H' hF x => kE cls H' hF (fun b o hb => x b o (by
        have hn : b ∉ μ1.map (·.1) := fun z => by
          obtain ⟨p, hp, q⟩ := List.mem_map.mp z
          rw [← q, S.nb p (List.mem_append_left _ hp)] at hb; cases hb
        show hid (μ1.map (·.1)) H1 b = some o
        rw [hid_out hn]
        exact S1.bs b o hb))))
end
end J

set_option maxHeartbeats 4000000
/-! J10: enumerate of a tuple; a tuple times n. -/
namespace J
open PySem PySem.Spec PyProof.Rows L2 Evl RZ
open Sem (wp)
open AutoSeq1 (wpAny_loadPart')
theorem meets_enumerate_newT (l : Addr) (items : Array Value) (n : Nat) (dct : Option Addr) (sl : Array (Option Value)) :
    Meets (Builtin.«enumerate.__new__» ⟨[.type "enumerate", .ref l], []⟩) (fun _ R s => s.heap.get? l = some { cls := .type "tuple", dict := dct, data := .seq items n, slots := sl } ∧
      R (.ok (.ret (.ref (s.heap.push { cls := .type "tuple_iterator", data := .fields #[.ref l, .int 0 0] }).objs.size)))
        { s with heap := (s.heap.push { cls := .type "tuple_iterator", data := .fields #[.ref l, .int 0 0] }).push { cls := .type "enumerate", data := .fields #[.none, .bool false, .ref s.heap.objs.size, rawInt 0, .none, .none] } }) :=
  .of_wp fun prog w A R s h => by
    obtain ⟨hp, g, d, tk, os⟩ := s; obtain ⟨hl, h⟩ := h
    have hsub := sub_enumerate
    have hL : Heap.IsTuple (Shared.heap ⟨hp, g, d, tk, os⟩) l items := ⟨_, hl, rfl, n, rfl⟩
    wp_walk using wpAny_loadPart' hl
    refine wpAny_stack_any fun st => wpAny_pure ?_
    split
    · rename_i c _ _ _ _ _
      cases (c == Value.type "enumerate")
      · wp_walk using wpAny_loadPart' hl, wpAny_pyIter_tuple hL
        exact ⟨_, rfl, h⟩
      · wp_walk using wpAny_loadPart' hl, wpAny_pyIter_tuple hL
        exact ⟨_, rfl, h⟩
    · wp_walk using wpAny_loadPart' hl, wpAny_pyIter_tuple hL
      exact ⟨_, rfl, h⟩
theorem call_enumerate_tup {prog : Program} {w : World} {A : Around} {E : Value → Shared → Prop} {s : Shared} {l : Addr} {items : Array Value} {Q : Value → Shared → Prop} (hL : s.heap.IsTuple l items)
    (h : ∀ h', IsEnum h' (s.heap.objs.size + 1) s.heap.objs.size 0 .none → h'.IsTupleIter s.heap.objs.size l 0 → h'.objs.size = s.heap.objs.size + 2 →
      (∀ b o, s.heap.get? b = some o → h'.get? b = some o) → Q (.ref (s.heap.objs.size + 1)) { s with heap := h' }) :
    wpAny (model prog w) A (call (.type "enumerate") [.ref l]) Q E s := by
  obtain ⟨⟨c, dct, dt, sl⟩, hl, hc, n, hd⟩ := hL
  replace hc : c = .type "tuple" := hc
  replace hd : dt = .seq items n := hd
  subst hc hd
  refine callType_new F.called_enumerate (by decide) (F.typeCall_enumerate_1 _) (F.newCall_enumerate_1 _) (fun obj => F.args_object_init_2 obj _) F.entry_enumerate_new
    (meets_enumerate_newT l items n dct sl) ⟨hl, ?_⟩
  have hz : (s.heap.push { cls := .type "tuple_iterator", data := .fields #[.ref l, .int 0 0] }).objs.size = s.heap.objs.size + 1 := Heap.size_push ..
  show _ ∧ _
  rw [hz]
  have he : IsEnum ((s.heap.push { cls := .type "tuple_iterator", data := .fields #[.ref l, .int 0 0] }).push
      { cls := .type "enumerate", data := .fields #[.none, .bool false, .ref s.heap.objs.size, rawInt 0, .none, .none] }) (s.heap.objs.size + 1) s.heap.objs.size 0 .none := by
    have := Heap.get?_push_size (s.heap.push { cls := .type "tuple_iterator", data := .fields #[.ref l, .int 0 0] })
      (o := { cls := .type "enumerate", data := .fields #[.none, .bool false, .ref s.heap.objs.size, rawInt 0, .none, .none] }) rfl
    rw [hz] at this; exact this
  refine ⟨⟨_, he, rfl⟩, h _ he ⟨_, Heap.get?_push_of_some _ (Heap.get?_push_size _ rfl), rfl, rfl⟩ (by rw [Heap.size_push, hz]) fun b o x => Heap.get?_push_of_some _ (Heap.get?_push_of_some _ x)⟩
/-- the tuple at a, each item in a new pair -/
def IteT (K : PySem.W.Frag) (a : Addr) : It :=
  ⟨fun i H => ∃ (xs : List V) (x : V), SqT K H a xs ∧ xs[i]? = some x, fun i H v H' => ∃ T x, v = .ref T ∧ H T = none ∧ H' = upd H T (.tup [.int (i : Nat), x]) ∧ ∀ xs, SqT K H a xs → xs[i]? = some x, fun i H => ∃ xs : List V, SqT K H a xs ∧ xs.length = i⟩
theorem isTuple_of {h : Heap} {a : Addr} {its : Array Value} (p : IsTup h a its) : h.IsTuple a its := by
  obtain ⟨⟨cls, dd, data, sl⟩, ho, hc, n, hd⟩ := p
  exact ⟨_, ho, hc, n, hd⟩
theorem turn_enumT {P : Program} {w : World} {K : PySem.W.Frag} {elts : List Expr} {kk : Nat} {tpos : Pos} (a e it : Addr) (hai : a ≠ it) (hea : e ≠ a) :
    Turn P w K (.Tuple elts kk tpos) (IteT K a) [e, it] e (fun i h => (∃ old, IsEnum h e it ((i : Nat) : Int) old) ∧ h.IsTupleIter it a i ∧ e ≠ it) where
  mem := by simp
  obj := fun i h st b hb => by
    obtain ⟨⟨old, he⟩, ⟨o, ho, hc, hd⟩, _⟩ := st
    have e' : b = e ∨ b = it := by simpa using hb
    rcases e' with z | z
    · rw [z]; exact ⟨_, he, fun v q => nomatch q⟩
    · rw [z]; exact ⟨o, ho, fun v q => by rw [hd] at q; cases q⟩
  keep := fun i h h' st k => let ⟨⟨old, he⟩, hi, hne⟩ := st; ⟨⟨old, k e (by simp) _ he⟩, hi.at fun o q => k it (by simp) o q, hne⟩
  item := by
    intro X hP hw hK hc i pins s σ H E I hf st hg
    subst hP hw hK
    obtain ⟨⟨old, he⟩, hit, hne⟩ := st
    obtain ⟨xs, x, hq, hx⟩ := hg
    obtain ⟨its, rv, p, hz⟩ := I.tuple hq
    obtain ⟨u, hu, ru⟩ := rv.get hx
    have hel : e < s.heap.objs.size := Heap.lt_size he
    have hil : it < s.heap.objs.size := by obtain ⟨_, q, _⟩ := hit; exact Heap.lt_size q
    have hlt : i < its.toArray.size := by rw [List.size_toArray]; exact (List.getElem?_eq_some_iff.mp hu).1
    refine wpAny_pyNext_enum_itemD (Draws.tuple (A := X.A.in1) (I.ok.hd hc) it a hai its.toArray) he ⟨hit, isTuple_of p⟩ hlt hne (by simp [hne, hea]) fun y h' tk hy ho hst hT hsz hk => ?_
    obtain rfl : y = u := by
      have hu2 : its.toArray[i]? = some u := by simpa using hu
      rw [hu2] at hy
      exact (Option.some.inj hy).symm
    obtain ⟨hit', _⟩ := hst
    refine ⟨_, rfl, wpAny_letOwnedTupleGo_enum (s := { s with heap := h', toks := tk + 1 }) ho fun h'' he' sb => ?_⟩
    have hT2 : h''.get? s.heap.objs.size = some { cls := .type "tuple", data := .seq #[.int i tk, y] } := (sb.2 _ (Nat.ne_of_gt hel)).trans hT
    have new : ObjOk X.prog X.w (upd H s.heap.objs.size (.tup [.int (i : Nat), x])) h'' s.heap.objs.size (.tup [.int (i : Nat), x]) :=
      ⟨by show 2 ≤ sizeLine; decide, [.int i tk, y], .cons ⟨_, rfl⟩ (.cons ru .nil), ⟨_, hT2, rfl, _, rfl⟩⟩
    have I1 : Inv X pins σ (upd H s.heap.objs.size (.tup [.int (i : Nat), x])) { s with heap := h'', toks := tk + 1 } :=
      I.turnedNew (ch := [e, it]) (fun b ob hb q => (sb.2 b (fun z => hb (by simp [z]))).trans (hk b ob (fun z => hb (by simp [z])) (fun z => hb (by simp [z])) q)) hf (Nat.le_refl _) new
    refine ⟨.ref s.heap.objs.size, _, I1, rfl, ⟨_, x, rfl, I.hok.fresh (Nat.le_refl _), rfl, fun ys hy => by rw [I.tuple_inj hy hq]; exact hx⟩, ⟨⟨y, ?_⟩, hit'.at fun o q => (sb.2 it (Ne.symm hne)).trans q, hne⟩, fun b hb => ?_⟩
    · have e1 : ((i + 1 : Nat) : Int) = (i : Int) + 1 := by omega
      rw [e1]; exact he'
    · have hb' : b < s.heap.objs.size := by
        have e' : b = e ∨ b = it := by simpa using hb
        rcases e' with z | z
        · rw [z]; exact hel
        · rw [z]; exact hil
      rw [upd_ne (Nat.ne_of_lt hb')]
      exact (hf b hb).1
  done := by
    intro X hP hw hK hc i pins s σ H E I hf st hg
    subst hP hw hK
    obtain ⟨⟨old, he⟩, hit, hne⟩ := st
    obtain ⟨xs, hq, hx⟩ := hg
    obtain ⟨its, rv, p, hz⟩ := I.tuple hq
    obtain ⟨f0, f1, f2, f3, f4, f5⟩ := hf it (by simp)
    have hl := rv.length
    have e1 : its.toArray.size = i := by rw [List.size_toArray]; omega
    have hit2 : s.heap.IsTupleIter it a its.toArray.size := by rw [e1]; exact hit
    exact wpAny_pyNext_enum_endD (Draws.tuple (A := X.A.in1) (I.ok.hd hc) it a hai its.toArray) he ⟨hit2, isTuple_of p⟩ fun h' eb => ⟨rfl, I.turned (t' := s.toks) (fun b o hb q => eb b o hb q) f0 f1 f3 f4 f5⟩
  self := fun A i s Q E st h => let ⟨⟨_, he⟩, _⟩ := st; wpAny_pyIter_enum he h
def iEnumT (K : PySem.W.Frag) (ta : TA) : TI := fun σ H R => ta σ H fun vs H1 => ∃ a xs, vs = [.ref a] ∧ SqT K H1 a xs ∧ R (IteT K a) H1
theorem pi_enumT {X : Cx} {e : Expr} {ta : TA} {p pos tpos : Pos} {elts : List Expr} {kk : Nat} (hg : Gl X "enumerate") (hm : X.mg "enumerate" = none) (ha : PA X [e] ta) (hs : starEach [e] X.env = [(false, eval e X.env)] := by rfl) :
    PI X (.Tuple elts kk tpos) (.Call (.Name "enumerate" p) [e] [] pos) (iEnumT X.K ta) := by
  refine ⟨fun pins s σ H R I h => ?_⟩
  refine Call_ (ld_blt I hg hm boot_enumerate (PyProof.Rows.callWith_type1 (thn (ha.run pos pins s σ H _ I h) fun us s1 ⟨vs, H1, I1, r1, q1⟩ => ?_) hs rfl))
  obtain ⟨a, xs, ex, hq, q⟩ := q1
  subst ex
  cases r1 with
  | cons r rr =>
    cases rr
    cases r
    obtain ⟨its, rv, p', hz⟩ := I1.tuple hq
    have hal : a < s1.heap.objs.size := by obtain ⟨o, ho, _⟩ := p'; exact Heap.lt_size ho
    refine call_enumerate_tup (isTuple_of p') fun h' he hit hsz hk => wpAny_pyIter_enum he ?_
    have I2 : Inv X pins σ H1 { s1 with heap := h' } := I1.kept (t' := s1.toks) hk
    refine ⟨s1.heap.objs.size + 1, [s1.heap.objs.size + 1, s1.heap.objs.size], _, _, H1, rfl, I2, turn_enumT a (s1.heap.objs.size + 1) s1.heap.objs.size (Nat.ne_of_lt hal) (Nat.ne_of_gt (Nat.lt_succ_of_lt hal)), ⟨⟨.none, he⟩, hit, Nat.succ_ne_self _⟩, fun b hb => ?_, q⟩
    have e' : b = s1.heap.objs.size + 1 ∨ b = s1.heap.objs.size := by simpa using hb
    have hle : s1.heap.objs.size ≤ b := by
      rcases e' with z | z
      · rw [z]; exact Nat.le_add_right _ _
      · rw [z]; exact Nat.le_refl _
    exact I1.fpOk hle (I1.hok.fresh hle)
theorem walk_enumT {K : PySem.W.Frag} {a : Addr} {xs : List V} : Walk (IteT K a) xs.length (fun H => SqT K H a xs) (YPair (fun i => some (.int (i : Nat))) (fun i => xs[i]?)) := by
  refine ⟨fun i _ hi q => ⟨xs, xs[i], q, by simp [hi]⟩, fun _ q => ⟨xs, q, rfl⟩, fun i H v H' _ q y => ?_⟩
  obtain ⟨T, x, h1, h2, h3, h4⟩ := y
  exact ⟨T, .int (i : Nat), x, h1, h2, h3, rfl, h4 xs q⟩
section
variable {X : Cx} {M : List Addr} {σ : L2.St} {H : Hp} {a b e : Expr} {d d' : D} {ds es : List D} {p pos : Pos} {i j : Int}
theorem jw_enumT {elts : List Expr} {kk : Nat} {tpos : Pos} (hm : X.mg "enumerate" = none) (h : Jd X M a σ H (.tuple ds)) (hg : Gl X "enumerate" := by rfl) (hs : starEach [a] X.env = [(false, eval a X.env)] := by rfl) :
    Jw X M (.Tuple elts kk tpos) (.Call (.Name "enumerate" p) [a] [] pos) σ H (zipD (rgD 0 ds.length) ds) := fun al H1 x R k =>
  leI (pi_enumT hg hm (pa_cons pe_W pa_nil hs) hs) (h al H1 x _ fun v H2 y q => by
    obtain ⟨t, xs, e1, e2, e3⟩ := dTup q
    refine ⟨t, xs, by rw [e1], ex_t hid_le e2, k _ H2 y ⟨_, _, ?_, fun H4 g => ex_t g e2, yl_pair (f := fun i => some (.int (i : Nat))) (fun i d hd => ?_) (fun i d hd => e3.get hd)⟩⟩
    · have e : (zipD (rgD 0 ds.length) ds).length = xs.length := by rw [zipD_len, rgD_len, e3.len]; omega
      rw [e]
      exact walk_enumT
    · obtain ⟨_, e4⟩ := rgD_get hd
      rw [e4, Int.zero_add]
      exact ⟨_, rfl, .int _⟩)
end
/-! ### a tuple times 1 -/
theorem tuple_mul1 (l : Addr) (items : Array Value) (n : Nat) (u : Tok) :
    Meets (Builtin.«tuple.__mul__» ⟨[.ref l, .int 1 u], []⟩) (fun _ R s => ∃ dd sl, s.heap.get? l = some { cls := .type "tuple", dict := dd, data := .seq items n, slots := sl } ∧ R (.ok (.ret (.ref l))) s) :=
  .of_wp fun prog w A R s h => by
    obtain ⟨hp, g, d, tk, os⟩ := s
    obtain ⟨dd, sl, hl, h⟩ := h
    have f1 := AutoSeq1.idx_int
    have c1 : (items.isEmpty || (1 : Int) == 1) = true := by simp
    wp_walk using wpAny_loadPart' hl
    repeat (first
      | (refine wpAny_ite_false (decide_eq_false (by decide)) ?_; wp_walk using wpAny_loadPart' hl)
      | (refine wpAny_ite_true (decide_eq_true c1) ?_; wp_walk using wpAny_loadPart' hl))
    exact ⟨_, rfl, h⟩
def rRep1 (K : PySem.W.Frag) : R2 := fun x y H Q => ∃ l xs, x = .ref l ∧ y = .int 1 ∧ SqT K H l xs ∧ Q (.ref l) H
theorem op_rep1 {X : Cx} : OpR X (binaryOp .Mult) (rRep1 X.K) := by
  intro pins s σ H x y v u Q I rx ry h
  obtain ⟨l, xs, rfl, rfl, hT, q⟩ := h
  cases rx
  obtain ⟨t, rfl⟩ := ry
  obtain ⟨its, r, ⟨⟨cls, dd, data, sl⟩, ho, hc, n, hd⟩, hs⟩ := I.tuple hT
  simp only at hc hd
  subst hc hd
  refine wpAny_binaryOp_repeat_ref (T := "tuple") (U := "int") (by decide) ⟨_, ho, rfl⟩ (fun s' => typeIs_int s' 1 t) noFill_tuple_mul F.fills_int_mul F.slot_int_rmul repeat_tuple F.slot_int_index.lookup
    (call_meets F.slot_int_rmul (typeIs_int s 1 t) F.entry_int_rmul (F.args_int_rmul_2 _ _) (int_rmul_tuple 1 t l its.toArray n dd sl)
      ⟨ho, rfl, ⟨_, ho, rfl⟩, call_meets F.slot_tuple_mul ⟨_, ho, rfl⟩ F.entry_tuple_mul (F.args_tuple_mul_2 _ _) (tuple_mul1 l its.toArray n t) ⟨dd, sl, ho, ?_⟩⟩)
  exact ⟨.ref l, H, I, rfl, q⟩
theorem flatR {α : Type} (n : Nat) (x : α) : (List.replicate n [x]).flatten = List.replicate n x := flat1 n x
theorem dpRep {K : PySem.W.Frag} {G : Hp} {v : V} {d : D} (h : Dp K G v d) : ∀ n : Nat, DpAll K G (List.replicate n v) (List.replicate n d)
  | 0 => .nil
  | n + 1 => by rw [List.replicate_succ, List.replicate_succ]; exact .cons h (dpRep h n)
/-- (d,) * n, n at least 1 -/
theorem jd_repT {X : Cx} {M : List Addr} {σ : L2.St} {H : Hp} {a b : Expr} {d : D} {pos : Pos} {n : Int} (ha : Jd X M a σ H (.tuple [d])) (hb : Jd X M b σ H (.int n)) (h1 : 1 ≤ n) (h2 : n ≤ 1000) : Jd X M (.BinOp a .Mult b pos) σ H (.tuple (List.replicate n.toNat d)) := fun al H1 x Q q => by
  by_cases hn : n = 1
  · subst hn
    exact leW (pe_op op_rep1 pe_W pe_W) (ha al H1 x _ fun v H2 y p => hb al H2 (x.trans y) _ fun w H3 z r => by
      obtain ⟨t, xs, e1, e2, e3⟩ := dTup p
      exact ⟨t, xs, e1, dInt r, ex_t z (ex_t hid_le e2), e1 ▸ q _ H3 (y.trans z) (p.ex (hid_ex z))⟩)
  · exact leW (pe_op op_repT pe_W pe_W) (ha al H1 x _ fun v H2 y p => hb al H2 (x.trans y) _ fun w H3 z r => by
      obtain ⟨t, xs, e1, e2, e3⟩ := dTup p
      obtain ⟨v1, rfl⟩ : ∃ v, xs = [v] := by
        have := e3.len
        match xs, this with
        | [v], _ => exact ⟨v, rfl⟩
      refine ⟨t, n, [v1], e1, dInt r, ex_t z (ex_t hid_le e2), by simp, by omega, h2, by simp, fun c hc => ?_⟩
      rw [flat1]
      refine q _ _ ((y.trans z).trans (Ex.new hc)) (.tup (SqT.of ((al.ex ((x.trans y).trans z)).newEx hc)) ?_)
      cases e3 with
      | cons e3 _ =>
        exact dpRep (e3.ex ((hid_ex z).trans (hid_ex (M := M) (Ex.new (o := .tup (List.replicate n.toNat v1)) hc)))) _)
end J

set_option maxHeartbeats 4000000
/-! J11: comprehensions whose turns change objects. -/
namespace J
open PySem PySem.Spec PyProof.Rows L2 Evl RZ
section
variable {X : Cx} {B H : Hp} {M0 : List Addr} {ρ : Ro} {μ : Mu} {σ : L2.St} {ds : List D} {pos : Pos} {tg iter elt : Expr} {scope : Scope} {own : List (Str × Nat)} {js : List Nat}
/-- [elt for tg in iter]: I tells what was given, and the objects; the new list stands first in the end -/
theorem lcE_core {Jt2 : It} {H2 : Hp} (S2 : Sy X.K B M0 ρ μ σ H2) (yl : Yl X.K (hid (adr M0 μ) H2) Jt2 ds) (f : D → Ro → Ro) (hjs : ∀ j ∈ js, j ∈ own.map (·.2)) (I : Nat → List D → Mu → Prop) (h0 : I 0 [] μ) (hlen : ∀ i acc μ', I i acc μ' → acc.length ≤ 90000)
    (hg : ∀ X' d, Blk X scope X' → d ∈ ds → Jg X' tg js d (wip ρ (own.map (·.2))) (f d (wip ρ (own.map (·.2)))))
    (he : ∀ (i : Nat) (d : D) (acc : List D) (μ' : Mu) X' B' M' σ' H' (Q : VK), ds[i]? = some d → I i acc μ' → Blk X scope X' → Sy X'.K B' M' (f d (wip ρ (own.map (·.2)))) μ' σ' H' →
      (∀ v x μ'' H'', I (i + 1) (acc ++ [x]) μ'' → Sy X'.K B' M' (f d (wip ρ (own.map (·.2)))) μ'' σ' H'' → Dp X'.K (hid (adr M' μ'') H'') v x → Q v H'') → tW X' elt σ' H' Q)
    {Q : VK} (k : ∀ a acc μ' H', I ds.length acc μ' → Sy X.K B M0 ρ ((a, .lst (acc.map .dat)) :: μ') σ H' → Q (.ref a) H') :
    tLc (fun _ _ R => R Jt2 H2) (tGb X scope tg) (tTsb X scope []) (tWb X scope elt) (own.map (·.2)) σ H Q := by
  intro Dl hD
  obtain ⟨G, Y, w, hG, hY⟩ := yl
  let Pv : Nat → Hp → Prop := fun i H' => ∃ acc μ', I i acc μ' ∧ Sy X.K (J.grd μ H2) M0 ρ (μ' ++ [(Dl, .lst (acc.map .dat))]) σ H'
  have low : hid M0 (J.grd μ H2) = hid (adr M0 μ) H2 := grd_low
  have S0 : Sy X.K (J.grd μ H2) M0 ρ (μ ++ [(Dl, .lst ([] : List Sv))]) σ (L2.upd H2 Dl (.lst [])) := (S2.grd.newN (.lst []) (Ex.new hD) hD ⟨[], upd_same, .nil⟩).perm (List.perm_append_comm (l₁ := μ) (l₂ := [_]))
  refine lc_it w Pv ⟨[], μ, h0, S0⟩ (fun i H' hi p => hG H' ?_) (fun i x H' H3 hi p y => ?_) (fun H' p => ?_)
  · obtain ⟨acc, μ', _, S'⟩ := p
    rw [← low]; exact S'.low.trans hid_le
  · obtain ⟨acc, μ', hI, S'⟩ := p
    have g0 : Ex (hid (adr M0 μ) H2) (hid (adr M0 (μ' ++ [(Dl, .lst (acc.map .dat))])) H') := by rw [← low]; exact S'.low
    obtain ⟨x3, dx⟩ := hY i H' x H3 hi (g0.trans hid_le) y
    have hdi : ds[i]? = some ds[i] := List.getElem?_eq_getElem hi
    have q := dx _ S'.all g0 ds[i] hdi
    have S3 := S'.ex x3
    have S3w := (S3.wipe (own.map (·.2))).split
    rw [← adr_app] at q
    intro X' hX
    have eK : X'.K = X.K := by obtain ⟨_, _, _, _, _, rfl⟩ := hX; rfl
    refine hg X' ds[i] hX (List.getElem_mem hi) _ _ _ _ _ _ (by rw [eK]; exact S3w) (by rw [eK]; exact q) _ fun σ4 S4 l4 o4 => ⟨?_, ?_⟩
    · rw [wipe_eq (vs := own.map (·.2)) l4 fun j hj => o4 j fun z => hj (hjs j z)]
      exact wipe_eq (wipe_length _ _) fun j hj => wipe_out hj
    · intro X2 hX2
      have eK2 : X2.K = X'.K := by obtain ⟨_, _, _, _, _, rfl⟩ := hX2; exact eK.symm
      refine jts_nil (M := adr (adr M0 [(Dl, .lst (acc.map .dat))]) μ') S4.all H3 (Ex.refl H3) _ fun H5 x5 => ?_
      have S5 := S4.ex x5
      have S35 := S3.ex x5
      rw [if_pos rfl]
      intro X3 hX3
      have eK3 : X3.K = X2.K := by obtain ⟨_, _, _, _, _, rfl⟩ := hX3; exact eK.symm.trans eK2.symm
      have eKK : X3.K = X.K := (eK3.trans eK2).trans eK
      have S5' : Sy X3.K (J.grd μ' H5) (adr M0 [(Dl, .lst (acc.map .dat))]) (f ds[i] (wip ρ (own.map (·.2)))) μ' σ4 H5 := by
        rw [eK3, eK2]
        have := S5.grd
        exact this
      refine he i ds[i] acc μ' X3 _ _ σ4 H5 _ hdi hI hX3 S5' fun v z μ'' H6 hI6 S6 pv => ?_
      have S6' : Sy X.K (J.grd μ' H5) (adr M0 [(Dl, .lst (acc.map .dat))]) (f ds[i] (wip ρ (own.map (·.2)))) μ'' σ4 H6 := by rw [← eKK]; exact S6
      have S7 := S35.keep S6'
      have hil : (μ'' ++ [(Dl, Mo.lst (acc.map .dat))])[μ''.length]? = some (Dl, .lst (acc.map .dat)) := by simp
      obtain ⟨vs, a1, a2⟩ := S7.own hil
      have hl1 := paired_len a2
      rw [List.length_map] at hl1
      refine ⟨vs, a1, sz_lt (by have := hlen _ _ _ hI; omega), acc ++ [z], μ'', hI6, ?_⟩
      have pv' : Dp X.K (hid (adr M0 (μ'' ++ [(Dl, .lst (acc.map .dat))])) H6) v z := by rw [← adr_app, ← eKK]; exact pv
      have S8 := S7.upd (.lst ((acc ++ [z]).map .dat)) (o := .lst (vs ++ [v])) hil ⟨vs ++ [v], upd_same, by rw [List.map_append]; exact paired_app a2 (.cons pv' .nil)⟩
      have e : (μ'' ++ [(Dl, Mo.lst (acc.map .dat))]).set μ''.length (Dl, .lst ((acc ++ [z]).map .dat)) = μ'' ++ [(Dl, .lst ((acc ++ [z]).map .dat))] := by simp
      rw [e] at S8
      exact S8
  · obtain ⟨acc, μ', hI, S'⟩ := p
    exact k Dl acc μ' H' hI ((S'.base S2.grdB).perm (List.perm_append_comm (l₁ := [_]) (l₂ := μ')))
theorem lcE_tree (S : Sy X.K B M0 ρ μ σ H) (hw : Jw X (adr M0 μ) tg iter σ H ds) (f : D → Ro → Ro) (hjs : ∀ j ∈ js, j ∈ own.map (·.2)) (I : Nat → List D → Mu → Prop) (h0 : I 0 [] μ) (hlen : ∀ i acc μ', I i acc μ' → acc.length ≤ 90000)
    (hg : ∀ X' d, Blk X scope X' → d ∈ ds → Jg X' tg js d (wip ρ (own.map (·.2))) (f d (wip ρ (own.map (·.2)))))
    (he : ∀ (i : Nat) (d : D) (acc : List D) (μ' : Mu) X' B' M' σ' H' (Q : VK), ds[i]? = some d → I i acc μ' → Blk X scope X' → Sy X'.K B' M' (f d (wip ρ (own.map (·.2)))) μ' σ' H' →
      (∀ v x μ'' H'', I (i + 1) (acc ++ [x]) μ'' → Sy X'.K B' M' (f d (wip ρ (own.map (·.2)))) μ'' σ' H'' → Dp X'.K (hid (adr M' μ'') H'') v x → Q v H'') → tW X' elt σ' H' Q)
    {Q : VK} (k : ∀ a acc μ' H', I ds.length acc μ' → Sy X.K B M0 ρ ((a, .lst (acc.map .dat)) :: μ') σ H' → Q (.ref a) H') :
    tLc (tI X tg iter) (tGb X scope tg) (tTsb X scope []) (tWb X scope elt) (own.map (·.2)) σ H Q := by
  exact hw S.all H (Ex.refl H) _ fun Jt2 H2 x2 yl => lcE_core (H := H) (S.ex x2) yl f hjs I h0 hlen hg he k
theorem sy_lcE (S : Sy X.K B M0 ρ μ σ H) (hw : Jw X (adr M0 μ) tg iter σ H ds) (f : D → Ro → Ro) (hjs : ∀ j ∈ js, j ∈ own.map (·.2)) (I : Nat → List D → Mu → Prop) (h0 : I 0 [] μ) (hlen : ∀ i acc μ', I i acc μ' → acc.length ≤ 90000)
    (hg : ∀ X' d, Blk X scope X' → d ∈ ds → Jg X' tg js d (wip ρ (own.map (·.2))) (f d (wip ρ (own.map (·.2)))))
    (he : ∀ (i : Nat) (d : D) (acc : List D) (μ' : Mu) X' B' M' σ' H' (Q : VK), ds[i]? = some d → I i acc μ' → Blk X scope X' → Sy X'.K B' M' (f d (wip ρ (own.map (·.2)))) μ' σ' H' →
      (∀ v x μ'' H'', I (i + 1) (acc ++ [x]) μ'' → Sy X'.K B' M' (f d (wip ρ (own.map (·.2)))) μ'' σ' H'' → Dp X'.K (hid (adr M' μ'') H'') v x → Q v H'') → tW X' elt σ' H' Q)
    (ok : BlkOk X.N X.env.scope scope own) (hc : X.calm = true) (hN : X.N.Nodup) {Q : VK} (k : ∀ a acc μ' H', I ds.length acc μ' → Sy X.K B M0 ρ ((a, .lst (acc.map .dat)) :: μ') σ H' → Q (.ref a) H') (hs : ∀ x, foldedSetIterable iter X.env x = pure x := by intro _; rfl) :
    tW X (.ListComp elt [⟨tg, iter, [], 0⟩] scope pos) σ H Q :=
  leW (pe_lc (own := own) (g := tGb X scope tg) (tt := tTsb X scope []) (te := tWb X scope elt) hc hN pi_I ok (fun s H C cl fp => ⟨fun pins s' σ' H' v u Q' I r h => h _ ⟨s, H, C, cl, fp, rfl⟩ pins s' u I r⟩)
    (fun s H C cl fp => ⟨fun pins s' σ' H' Q' I h => h _ ⟨s, H, C, cl, fp, rfl⟩ pins s' I⟩) (fun s H C cl fp => ⟨fun pins s' σ' H' Q' I h => h _ ⟨s, H, C, cl, fp, rfl⟩ pins s' I⟩) hs) (lcE_tree S hw f hjs I h0 hlen hg he k)
/-- a comprehension without effects, the new list is one's own -/
theorem lcN_own {ifs : List Expr} (S : Sy X.K B M0 ρ μ σ H) (hw : Jw X (adr M0 μ) tg iter σ H ds) (out : List (Option D)) (hl : out.length = ds.length) (hz : ds.length ≤ 90000) (f : D → Ro → Ro) (hjs : ∀ j ∈ js, j ∈ own.map (·.2))
    (hg : ∀ X' d, Blk X scope X' → d ∈ ds → Jg X' tg js d (wip ρ (own.map (·.2))) (f d (wip ρ (own.map (·.2)))))
    (ht : ∀ (i : Nat) (d : D) (o : Option D) X' B' M' σ' H', ds[i]? = some d → out[i]? = some o → Blk X scope X' → Sy X'.K B' M' (f d (wip ρ (own.map (·.2)))) μ σ' H' → Jts X' (adr M' μ) ifs σ' H' o.isSome)
    (he : ∀ (i : Nat) (d x : D) X' B' M' σ' H', ds[i]? = some d → out[i]? = some (some x) → Blk X scope X' → Sy X'.K B' M' (f d (wip ρ (own.map (·.2)))) μ σ' H' → Jd X' (adr M' μ) elt σ' H' x)
    {Q : VK} (k : ∀ a H', Sy X.K B M0 ρ ((a, .lst ((out.filterMap id).map .dat)) :: μ) σ H' → Q (.ref a) H') : tLc (tI X tg iter) (tGb X scope tg) (tTsb X scope ifs) (tWb X scope elt) (own.map (·.2)) σ H Q :=
  lcN_tree S hw out hl hz f hjs hg ht he S.all (Ex.refl H) fun a vs H2 x hn ha p => k a H2 (S.newN (.lst ((out.filterMap id).map .dat)) x hn ⟨vs, ha, paired_dat p⟩)
end
end J

set_option maxHeartbeats 4000000
/-! J12: an exception that was caught is kept as a value. -/
namespace J
open PySem PySem.Spec PyProof.Rows L2 Evl RZ
section
variable {X : Cx} {pins : List (Addr × Obj)} {σ : L2.St} {H : Hp} {s : Shared}
theorem Inv.addX {a : Addr} {o : HO} (I : Inv X pins σ H s) (hn : H a = none) (h0 : X.s_0.heap.get? a = none) (nL : a ≠ X.env.locals) (nc : ∀ x c, X.env.cells.lookup x = some c → c ≠ a) (np : ∀ p ∈ X.pn ++ pins, p.1 ≠ a) (new : ObjOk X.prog X.w (L2.upd H a o) s.heap a o) : Inv X pins σ (L2.upd H a o) s where
  ok := I.ok
  os := I.os
  bare := I.bare
  base := ⟨I.base.keep, I.base.slot, fun b u q n hx => by rw [upd_ne (fun z => by rw [z, h0] at q; cases q)]; exact I.base.free b u q n hx, I.base.there,
    fun b xs q => by rw [upd_ne (ne_of_none (I.base.tups b xs q) hn)]; exact I.base.tups b xs q, fun b u xs q => by rw [upd_ne (ne_of_none (I.base.frzs b u xs q) hn)]; exact I.base.frzs b u xs q,
    fun b ps q => by obtain ⟨m, e⟩ := I.base.tbls b ps q; exact ⟨m, by rw [upd_ne (ne_of_none e hn)]; exact e⟩⟩
  loc := I.loc
  cell := I.cell
  free := by rw [upd_ne (Ne.symm nL)]; exact I.free
  freeC := fun x c e => by rw [upd_ne (nc x c e)]; exact I.freeC x c e
  pin := fun p hp => by
    obtain ⟨h1, h2, h3⟩ := I.pin p hp
    exact ⟨h1, by rw [upd_ne (np p hp)]; exact h2, h3⟩
  hok := I.hok.laidN (fun _ _ q => q) hn new
  len := I.len
end
/-- what the clause 'except x as n' wishes of an exception of the body, where the suite keeps it -/
def wAsV (K : PySem.W.Frag) (c : Value) (i : Nat) (ts : Addr → Value → Option Addr → TS) (Wout : WX) (D : Ends) : WX := fun cls d σ H =>
  ∃ b, PySem.W.exmOne K cls c = some b ∧ (b = true → ∀ a, H a = none → ts a cls d { nx := fun σ' H' => H' a = none → D.nx (σ'.set i none) (L2.upd H' a (exV cls d a)), rt := fun _ _ => False, bk := fun _ _ => False, ct := fun _ _ => False } (σ.set i (some (.ref a))) H) ∧
    (b = false → Wout cls d σ H)
section
variable {X : Cx} {x n : Str} {c : Value} {i : Nat} {body suite : List Stmt} {b₀ : Stmt} {np pos pos' : Pos} {tb : WX → TS} {ts : Addr → Value → Option Addr → TS} {Wout : WX}
theorem ps_try_asV (hex : X.ex = []) (hs : X.stack = X.env :: X.outer) (hf : X.env.frame = some X.env.locals) (hN : X.N.Nodup) (hi : X.N[i]? = some n) (hln : X.env.kindOf n = some .local) (hc : Names X x c) (tk : Takes X Wout)
    (hb : ∀ (W : WX) (pn : List (Addr × Obj)) (xe : Value → Shared → Prop), Takes (X.tr pn xe) W → PassesOwn (model X.prog X.w) X.A X.env xe → PSs (X.tr pn xe) body (tb W))
    (hsu : ∀ (a : Addr) (oe : Obj) (cls : Value) (d : Option Addr) (pn : List (Addr × Obj)), Zc cls d oe → (∃ vs, oe.data = .fields vs) → PSs (X.suite a ((a, oe) :: pn)) (b₀ :: suite) (ts a cls d)) :
    PS X (.Try body [.ExceptHandler (some (.Name x np)) (some n) (b₀ :: suite) pos'] [] [] pos) (fun D σ H => tb (wAsV X.K c i ts Wout D) D σ H) := by
  refine ⟨fun pins s σ H D I h => ?_⟩
  have ok := I.ok
  have hfr : X.A.frames = some (X.env :: X.outer) := by rw [ok.frames, hs]
  have hloc : Loc X.env.scope n := .inl hln
  refine wpAny_Try_except ?_
  refine wpAny_mono ((hb (wAsV X.K c i ts Wout D) (X.pn ++ pins) (fun e s₁ => wpAny (model X.prog X.w) X.A (noteFrame e X.env) (fun _ s₂ => wpAny (model X.prog X.w) X.A (setFlight e none) (fun _ s₃ =>
    wpAny (model X.prog X.w) X.A (handleBy e X.env [.ExceptHandler (some (.Name x np)) (some n) (b₀ :: suite) pos']) (SP X pins D) X.xe s₃) X.xe s₂) X.xe s₁) (fun u s' xx => ?_) PassesOwn.looking).run [] s σ H D (I.toTry _) h) (fun f s1 hsp => ?_) (fun e s1 he => he)
  · obtain ⟨a, B, sI, pins', σ', H', cls, d, rfl, J', nb, up, sky, na, os, ag, b, hb1, hyes, hno⟩ := xx
    have J : Inv X pins σ' H' sI := J'.ofTry ok
    have sky' : Sky B (X.env :: X.outer) a (Zc cls d) X.env.locals s'.heap := by rw [← hs]; exact sky
    show wpAny (model X.prog X.w) X.A (noteFrame (.ref a) X.env) _ _ _
    refine Sky.land Zc.steady hfr hf sky' fun h3 fl3 up3 => ?_
    have J3 : Inv X pins σ' H' { s' with heap := h3 } := J.landed nb fl3.1 (up.trans up3) os ag
    obtain ⟨oe3, vs3, he3, hz3, hd3⟩ := fl3.there
    have notFr : ∀ {h : Heap} {o : Obj} {vs : Array Value}, h.FunFrames B (X.env :: X.outer) → h.get? a = some o → o.data = .fields vs → a ∉ frs (X.env :: X.outer) := fun {h o vs} ff e dd hm => by
      obtain ⟨_, o', e', hnf⟩ := ff.mem hm
      rw [e] at e'; cases e'
      exact hnf _ dd
    have nfr := notFr fl3.2.2.1 he3 hd3
    have nL : a ≠ X.env.locals := fun z => nfr (List.mem_filterMap.mpr ⟨X.env, List.mem_cons_self, by rw [hf, z]⟩)
    have nF : a ∉ X.fs := fun hm => by
      obtain ⟨e, he, q⟩ := List.mem_filterMap.mp hm
      exact nfr (List.mem_filterMap.mpr ⟨e, List.mem_cons_of_mem _ he, q⟩)
    -- a is new
    have hB0 : B.get? a = none := fl3.2.1
    have hI0 : sI.heap.get? a = none := by
      cases q : sI.heap.get? a with
      | none => rfl
      | some o =>
        have := nb a o q (by rw [hs]; exact nfr)
        rw [hB0] at this; cases this
    have h00 : X.s_0.heap.get? a = none := by
      cases q : X.s_0.heap.get? a with
      | none => rfl
      | some o =>
        by_cases hx : a ∈ X.ex
        · rw [hex] at hx; cases hx
        · obtain ⟨o', e⟩ := J.base.there a o q hx
          rw [hI0] at e; cases e
    have npn : ∀ p ∈ X.pn ++ pins, p.1 ≠ a := fun p hp z => by
      have := (J.pin p hp).1
      rw [z, hI0] at this; cases this
    have ncl : ∀ y c, X.env.cells.lookup y = some c → c ≠ a := fun y c e z => by
      obtain ⟨w', o, e1, _⟩ := J.cell y c e
      rw [z, hI0] at e1; cases e1
    have S3 := J3.suite he3 hd3 na nL nF
    refine wpAny_handleBy_cons (codeAny_handlers_test ?_) (by intro q; cases q)
    have LT : PySem.W.Looks (model X.prog X.w) h3 (typeOf (.ref a)) cls := fun A Q E s k q => wpAny_typeOf_ref (k _ _ he3) (by rw [hz3.1]; exact q)
    have LM := PySem.W.exm_one (M := model X.prog X.w) (J3.kIn) LT hb1
    have test : ∀ {Q : Value → Shared → Prop} {E : Value → Shared → Prop}, Q c { s' with heap := h3 } → wpAny (model X.prog X.w) (X.A.mark (some (.ref a))) (eval (.Name x np) X.env) Q E { s' with heap := h3 } := fun {Q E} q => by
      obtain ⟨hg, hdbg, hm | ⟨hm, hv, hnn⟩⟩ := hc
      · exact ld_glob (X := X.suite a ((a, oe3) :: (X.pn ++ pins))) S3 hg hm q hdbg
      · exact ld_blt (X := X.suite a ((a, oe3) :: (X.pn ++ pins))) S3 hg hm hv q hnn hdbg
    refine test (LM.here ?_)
    cases b with
    | true =>
      refine codeAny_handlers_suite_as ?_
      refine HandSPX.lands_againZ fl3 fun h4 fl4 up4 => ?_
      have J4 : Inv X pins σ' H' { s' with heap := h4 } := J.landed nb fl4.1 ((up.trans up3).trans up4) os ag
      obtain ⟨oe4, vs4, he4, hz4, hd4⟩ := fl4.there
      have S4 := J4.suite he4 hd4 na nL nF
      refine store_ok (X := X.suite a ((a, oe4) :: (X.pn ++ pins))) (v := .ref a) S4 hN hi hloc rfl (fun s5 S5 => ?_) (.inr hln)
      refine wpAny_mono ((hsu a oe4 cls d (X.pn ++ pins) hz4 ⟨_, hd4⟩).run [] s5 _ H' _ S5 (hyes rfl a na)) (fun f s6 hsp => ?_) (fun _ _ z => False.elim z)
      cases f with
      | next =>
        obtain ⟨σ6, H6, S6, q6⟩ := hsp
        refine gone_ok (X := X.suite a ((a, oe4) :: (X.pn ++ pins))) S6 hN hi hln fun s7 S7 => ?_
        obtain ⟨p1, p2, _⟩ := S7.pin (a, oe4) (List.mem_append_left _ List.mem_cons_self)
        have J7 := S7.unsuite ok
        exact ⟨_, _, Inv.addX (a := a) (o := exV cls d a) J7 p2 h00 nL ncl npn ⟨⟨oe4, p1, hz4, _, hd4⟩, ⟨oe4, p1⟩, fun h1 h2 ⟨o, e, z, v⟩ k => ⟨o, k o e, z, v⟩⟩, q6 p2⟩
      | brk =>
        obtain ⟨σ6, H6, S6, q6⟩ := hsp
        exact q6.elim
      | cont =>
        obtain ⟨σ6, H6, S6, q6⟩ := hsp
        exact q6.elim
      | ret u =>
        obtain ⟨v6, σ6, H6, S6, r6, q6⟩ := hsp
        exact q6.elim
    | false =>
      show wpAny _ X.A (handleBy (.ref a) X.env []) _ _ _
      refine wpAny_handleBy_nil ?_
      obtain ⟨k1, k2, k3, oe, vs, T, oT, ts', he, hz, hd, h1, hr⟩ := id fl3
      unfold PySem.passOn
      refine wpAny_bind (wpAny_field he hd h1 ?_)
      rw [if_neg (show ¬ ((Value.ref T == Value.none) = true) from by simp)]
      have fin : wpAny (model X.prog X.w) X.A (setFlight (.ref a) X.env.frame) (fun _ s4 => wpAny (model X.prog X.w) X.A (throw (.ref a) : Sem Flow) (SP X pins D) X.xe s4) X.xe { s' with heap := h3 } := by
        rw [hf]
        refine HandSPX.setFlight_upZ fl3 fun h4 hh4 up4 => wpAny_throw (tk _ _ ?_)
        exact ⟨a, B, sI, pins, σ', H', cls, d, rfl, J, nb, (up.trans up3).trans up4, .inr (.inr (by rw [hs]; exact hh4)), na, os, ag, hno rfl⟩
      first
        | exact wpAny_bind (wpAny_pure (wpAny_bind fin))
        | exact wpAny_bind fin
  · cases f with
    | next =>
      obtain ⟨σ', H', J', q⟩ := hsp
      exact wpAny_execs_nil ⟨σ', H', J'.ofTry ok, q⟩
    | brk =>
      obtain ⟨σ', H', J', q⟩ := hsp
      exact ⟨σ', H', J'.ofTry ok, q⟩
    | cont =>
      obtain ⟨σ', H', J', q⟩ := hsp
      exact ⟨σ', H', J'.ofTry ok, q⟩
    | ret u =>
      obtain ⟨v, σ', H', J', r, q⟩ := hsp
      exact ⟨v, σ', H', J'.ofTry ok, r, q⟩
end
end J

set_option maxHeartbeats 4000000
/-! J13: caught(lambda: e), where caught keeps the exception. -/
namespace J
open PySem PySem.Spec PyProof.Rows L2 Evl RZ LamX
/-! ### data outlive a new code object in a table -/
section
variable {K : PySem.W.Frag} {H H' : Hp}
theorem rdN {a : Addr} {u : HO} (e : ExtN H H') (hu : ∀ ps, u ≠ .tbl ps) (h : Rd H a u) : Rd H' a u := by
  rcases h with h | ⟨o, h⟩
  · exact .inl (e a u h hu)
  · exact .inr ⟨o, e a _ h fun ps z => by cases z⟩
theorem sqLN {a : Addr} {xs : List V} (e : ExtN H H') (h : SqL K H a xs) : SqL K H' a xs := by
  rcases h with h | h
  · exact .inl (rdN e (fun ps z => by cases z) h)
  · exact .inr h
theorem sqTN {a : Addr} {xs : List V} (e : ExtN H H') (h : SqT K H a xs) : SqT K H' a xs := by
  rcases h with h | h
  · exact .inl (rdN e (fun ps z => by cases z) h)
  · exact .inr h
mutual
theorem dpN (e : ExtN H H') : ∀ (d : D) (v : V), Dp K H v d → Dp K H' v d
  | .none, _, h => by cases h; exact .non
  | .bool b, _, h => by cases h; exact .bl b
  | .int i, _, h => by cases h; exact .int i
  | .str x, _, h => by cases h; exact .str x
  | .list ds, _, h => by cases h with | lst a b => exact .lst (sqLN e a) (dpNA e ds _ b)
  | .tuple ds, _, h => by cases h with | tup a b => exact .tup (sqTN e a) (dpNA e ds _ b)
  | .dict _, _, h => by cases h
theorem dpNA (e : ExtN H H') : ∀ (ds : List D) (vs : List V), DpAll K H vs ds → DpAll K H' vs ds
  | [], _, h => by cases h; exact .nil
  | d :: ds, _, h => by cases h with | cons a b => exact .cons (dpN e d _ a) (dpNA e ds _ b)
end
theorem svN {s : Sv} {v : V} (e : ExtN H H') (h : s.holds K H v) : s.holds K H' v := by
  cases s with
  | dat d => exact dpN e d v h
  | val w => exact h
  | exc cls => obtain ⟨a, h1, h2⟩ := h; exact ⟨a, h1, e _ _ h2 fun ps z => by cases z⟩
theorem pairedN (e : ExtN H H') : ∀ {xs : List Sv} {vs : List V}, Paired (fun s v => s.holds K H v) xs vs → Paired (fun s v => s.holds K H' v) xs vs
  | _, _, .nil => .nil
  | _, _, .cons a b => .cons (svN e a) (pairedN e b)
theorem paired2N {κ : Type} (e : ExtN H H') : ∀ {xs : List (κ × Sv)} {vs : List (κ × V)}, Paired (fun (p : κ × Sv) (q : κ × V) => p.1 = q.1 ∧ p.2.holds K H q.2) xs vs → Paired (fun (p : κ × Sv) (q : κ × V) => p.1 = q.1 ∧ p.2.holds K H' q.2) xs vs
  | _, _, .nil => .nil
  | _, _, .cons a b => .cons ⟨a.1, svN e a.2⟩ (paired2N e b)
def noTab : Mo → Prop
  | .tab _ => False
  | _ => True
theorem moN {G G' : Hp} {a : Addr} {m : Mo} (e : ExtN G G') (e2 : ExtN H H') (h : m.holds K G H a) (n : noTab m) : m.holds K G' H' a := by
  cases m with
  | lst xs => obtain ⟨vs, h1, h2⟩ := h; exact ⟨vs, e2 _ _ h1 (fun ps z => by cases z), pairedN e h2⟩
  | dct xs => obtain ⟨vs, h1, h2⟩ := h; exact ⟨vs, e2 _ _ h1 (fun ps z => by cases z), paired2N e h2⟩
  | ins C dx xs => obtain ⟨vs, h1, h2⟩ := h; exact ⟨vs, e2 _ _ h1 (fun ps z => by cases z), paired2N e h2⟩
  | tab q => exact n.elim
theorem hidN {M : List Addr} (e : ExtN H H') : ExtN (hid M H) (hid M H') := fun a o h n => by
  by_cases ha : a ∈ M
  · rw [hid_in ha] at h; cases h
  · rw [hid_out ha] at h ⊢; exact e a o h n
/-- the state behind the making of a lambda -/
theorem Sy.tabbed {ρ : Ro} {μ : Mu} {σ : L2.St} {P : Addr} {q : Str} (S : Sy K (fun _ => none) [] ρ ((P, .tab q) :: μ) σ H) (hm : ∀ p ∈ μ, noTab p.2) (e : ExtN H H') (T : Tabs [(P, q)] H') : Sy K (fun _ => none) [] ρ ((P, .tab q) :: μ) σ H' := by
  have up := hidN (M := adr [] ((P, .tab q) :: μ)) e
  refine ⟨fun i s h => let ⟨v, a, b⟩ := S.sl i s h; ⟨v, a, svN up b⟩, S.ln, fun p hp => ?_, Al.nil, (fun _ _ z => by cases z), fun _ _ => rfl, S.dj⟩
  rcases List.mem_cons.mp hp with rfl | hp
  · obtain ⟨ps, h1, h2, h3⟩ := T (P, q) List.mem_cons_self
    refine ⟨ps, h1, h2, fun pos cv z => ?_⟩
    obtain ⟨c, c1, c2⟩ := h3 pos cv z
    refine ⟨c, c1, ?_⟩
    rw [hid_out fun hc => ?_]
    · exact c2
    · rcases List.mem_append.mp hc with hc | hc
      · obtain ⟨p, hp, rfl⟩ := List.mem_map.mp hc
        rcases List.mem_cons.mp hp with rfl | hp
        · rw [show H' P = _ from h1] at c2; cases c2
        · have := moN (K := K) up e (S.ob p (List.mem_cons_of_mem _ hp)) (hm p hp)
          revert this
          cases p.2 with
          | lst xs => rintro ⟨vs, h1, _⟩; rw [h1] at c2; cases c2
          | dct xs => rintro ⟨vs, h1, _⟩; rw [h1] at c2; cases c2
          | ins C dx xs => rintro ⟨vs, h1, _⟩; rw [h1] at c2; cases c2
          | tab q => rintro ⟨vs, h1, _⟩; rw [h1] at c2; cases c2
      · cases hc
  · exact moN up e (S.ob p (List.mem_cons_of_mem _ hp)) (hm p hp)
theorem Sy.tabs {ρ : Ro} {μ : Mu} {σ : L2.St} {P : Addr} {q : Str} {B : Hp} {M0 : List Addr} (S : Sy K B M0 ρ ((P, .tab q) :: μ) σ H) : Tabs [(P, q)] H := fun p hp => by
  obtain rfl := List.mem_singleton.mp hp
  obtain ⟨ps, h1, h2, h3⟩ := S.ob (P, .tab q) List.mem_cons_self
  refine ⟨ps, h1, h2, fun pos cv z => ?_⟩
  obtain ⟨c, c1, c2⟩ := h3 pos cv z
  exact ⟨c, c1, hid_le _ _ c2⟩
end
/-! ### found = None; try: a() / except e as n: found = n; return found -/
def TCaught (K : PySem.W.Frag) (CS : Addr) : (XK → Hp → VK → Prop) → Hp → VK → Prop := fun tl H Q =>
  tl (fun cls d H' => ∃ b, PySem.W.exmOne K cls (.ref CS) = some b ∧ (b = true → ∀ a, H' a = none → Q (.ref a) (L2.upd H' a (exV cls d a))) ∧ (b = false → False)) H fun _ H' => ∃ v, (some (some V.non) : Option (Option V)) = some (some v) ∧ Q v H'
theorem pss_len {X : Cx} {sts : List Stmt} {t : TS} (p : PSs X sts t) : PSs X sts (fun D σ H => σ.length = X.N.length → t D σ H) := ⟨fun pins s σ H D I h => p.run pins s σ H D I (h I.len)⟩
section
variable {X : Cx}
theorem caught_gives {x a e n f q : Str} {sg : Scope} {g CS : Addr} {cdg : Value} {j : Nat} {p0 p1 p2 p3 p4 p5 p6 p7 p8 p9 p10 p11 p12 p13 : Pos} (hnd : ([a, f, n] : List Str).Nodup) (hge : sg.names.lookup e = some .globalImplicit) (hme : X.mg e = some (.ref CS)) (hde : (e == ("__debug__" : Str)) = false)
    (hlf : sg.names.lookup f = some .local) (hln : sg.names.lookup n = some .local) (hdf : (f == ("__debug__" : Str)) = false) (hcf : (f == ("__classdict__" : Str)) = false) (hdn : (n == ("__debug__" : Str)) = false) (hcn : (n == ("__classdict__" : Str)) = false) :
    GivesTo X [a, f, n] x sg g cdg [.Assign [.Name f p0] (.Constant .none j p1) p2, .Try [.Expr (.Call (.Name a p3) [] [] p4) p5] [.ExceptHandler (some (.Name e p6)) (some n) [.Assign [.Name f p7] (.Name n p8) p9] p10] [] [] p11, .Return (some (.Name f p12)) p13] a q (TCaught X.K CS) := by
  intro fa c' s H Q tl act hc h
  have hgl : Gl (cxOf C8.CX0 X.prog X.w X.K X.mg X.base [a, f, n] x sg g cdg X.A X.stack s H C8.E0).nox e := hge
  have hN : (cxOf C8.CX0 X.prog X.w X.K X.mg X.base [a, f, n] x sg g cdg X.A X.stack s H C8.E0).nox.N.Nodup := hnd
  have vf : Vis sg f := .inl hlf
  have vn : Vis sg n := .inl hln
  refine ⟨_, pss_cons (ps_set (X := (cxOf C8.CX0 X.prog X.w X.K X.mg X.base [a, f, n] x sg g cdg X.A X.stack s H C8.E0).nox) (i := 1) hN rfl (.inl hlf) pe_non (by rfl) (.inr hlf))
    (pss_cons (ps_try_asV (X := (cxOf C8.CX0 X.prog X.w X.K X.mg X.base [a, f, n] x sg g cdg X.A X.stack s H C8.E0).nox) (c := .ref CS) (i := 2)
      (tb := fun W D σ H => ∃ Ech : XK, (∀ cls d σ' H', Ech cls d H' → W cls d σ' H') ∧ σ[0]? = some (some (.ref fa)) ∧ H c' = some (CodeO c' q) ∧ tl Ech H fun _ H' => D.nx σ H')
      rfl rfl rfl hN rfl hln ⟨hgl, hde, .inl hme⟩ takes0 (fun W pn xe tk _ => ?_) (ts := fun ad cls d D σ H => σ.length = 3 → tAsg (tVar 2) (gName 1) D σ H) (fun ad oe cls d pn _ _ => pss_len (X := (cxOf C8.CX0 X.prog X.w X.K X.mg X.base [a, f, n] x sg g cdg X.A X.stack s H C8.E0).nox.suite ad ((ad, oe) :: pn)) (pss_one (ps_set (X := (cxOf C8.CX0 X.prog X.w X.K X.mg X.base [a, f, n] x sg g cdg X.A X.stack s H C8.E0).nox.suite ad ((ad, oe) :: pn)) (i := 1) hN rfl (.inl hlf) (pe_var (i := 2) rfl vn hdn hcn) (by rfl) (.inr hlf)))))
      (pss_one (ps_ret (pe_var (i := 1) rfl vf hdf hcf)))), ?_⟩
  · refine ⟨fun pins s' σ H' D I h' => ?_⟩
    obtain ⟨Ech, hW, h1, h2, h3⟩ := h'
    have hp := act W pn xe Ech p3 p4 tk hW
    have hq := pss_one (ps_expr (pos := p5) hp (by rfl))
    exact hq.run pins s' σ H' D I ⟨h1, h2, h3⟩
  · refine ⟨_, fun cls d σ' H' hE => ?_, ?_, hc, h⟩
    · obtain ⟨b, e1, e2, e3⟩ := hE
      refine ⟨b, e1, fun hb ad hn hlen => ?_, fun hb => (e3 hb).elim⟩
      have hlen : (σ'.set 2 (some (V.ref ad))).length = 3 := hlen
      have hl : σ'.length = 3 := by rw [List.length_set] at hlen; exact hlen
      match σ', hl with
      | [s0, s1, s2], _ => exact ⟨.ref ad, rfl, fun hn => ⟨.ref ad, rfl, e2 hb ad hn⟩⟩
    · rfl
/-- what the lambda's body is to be -/
def tLm (X : Cx) (scope : Scope) (body : Expr) (k : Nat) : XK → TE := fun E σ H Q => ∀ (A : Around) (outer : List Env) (s : Shared) (H0 : Hp) (f c' : Addr), Room k (A.deeper (lamEnv X scope s.heap.objs.size f c')) → tW (lamCx X A outer s H0 E scope f c') body σ H Q
theorem jm_caught {k : Nat} {x a e n f : Str} {CS g c P : Addr} {st : Stmt} {fd : FuncData} {params : Arguments} {body : Expr} {scope : Scope} {p lpos pos : Pos} {j : Nat} {p0 p1 p2 p3 p4 p5 p6 p7 p8 p9 p10 p11 p12 p13 : Pos} {ρ : Ro} {μ : Mu} {σ : L2.St} {H : Hp} {Q : VK}
    (S : Sy X.K (fun _ => none) [] ρ ((P, .tab (X.env.qual ++ "<lambda>")) :: μ) σ H) (hmu : ∀ p ∈ μ, noTab p.2)
    (F : FunD X.K x x (defArgs st) [.Assign [.Name f p0] (.Constant .none j p1) p2, .Try [.Expr (.Call (.Name a p3) [] [] p4) p5] [.ExceptHandler (some (.Name e p6)) (some n) [.Assign [.Name f p7] (.Name n p8) p9] p10] [] [] p11, .Return (some (.Name f p12)) p13] (defScope st) [] [] g fd) (hm : X.mg x = some (.ref g))
    (hbi : ∀ (kV doc pm : Value) (an : Option Addr) (cdv ct : Value) (us : List Value), us.length = [a].length → bindArgs (PySem.W.fnOf x x (defArgs st) [.Assign [.Name f p0] (.Constant .none j p1) p2, .Try [.Expr (.Call (.Name a p3) [] [] p4) p5] [.ExceptHandler (some (.Name e p6)) (some n) [.Assign [.Name f p7] (.Name n p8) p9] p10] [] [] p11, .Return (some (.Name f p12)) p13] (defScope st) .none kV doc pm an cdv ct) ⟨us, []⟩ = pure ([a].zip us))
    (Sg : FnScope [a, f, n] [a] (defScope st)) (hva : Vis (defScope st) a) (hge : (defScope st).names.lookup e = some .globalImplicit) (hme : X.mg e = some (.ref CS)) (hde : (e == ("__debug__" : Str)) = false)
    (hlf : (defScope st).names.lookup f = some .local) (hln : (defScope st).names.lookup n = some .local) (hdf : (f == ("__debug__" : Str)) = false) (hcf : (f == ("__classdict__" : Str)) = false) (hdn : (n == ("__debug__" : Str)) = false) (hcn : (n == ("__classdict__" : Str)) = false)
    (TB : TabB X.base X.mg c P) (hcode : X.env.code = .ref c) (hr : Room (k + 2) X.A) (L : LamS X.env.scope scope)
    (hbody : ∀ (A : Around) (outer : List Env) (s : Shared) (H0 : Hp) (f' c' : Addr) (H1 : Hp) (E : XK), Room k (A.deeper (lamEnv X scope s.heap.objs.size f' c')) → Sy X.K (fun _ => none) [] ρ ((P, .tab (X.env.qual ++ "<lambda>")) :: μ) σ H1 →
      (∀ cls H', PySem.W.exmOne X.K cls (.ref CS) = some true → Sy X.K (fun _ => none) [] ρ ((P, .tab (X.env.qual ++ "<lambda>")) :: μ) σ H' → E cls none H') → tW (lamCx X A outer s H0 E scope f' c') body σ H1 (fun _ H' => Q .non H'))
    (hQ : ∀ cls v H', PySem.W.exmOne X.K cls (.ref CS) = some true → Sy X.K (fun _ => none) [] ρ ((P, .tab (X.env.qual ++ "<lambda>")) :: μ) σ H' → (Sv.exc cls).holds X.K (hid (adr [] ((P, .tab (X.env.qual ++ "<lambda>")) :: μ)) H') v → Q v H')
    (hg : Gl X x := by rfl) (hdef : defaultsOf params X.env = ([], []) := by rfl) (hbind : ∀ (q : Str) (cl : List (Str × Addr)) (pm cv ctv : Value), bindArgs (PySem.W.kla_fn "<lambda>" q params body scope cl pm cv ctv) ⟨[], []⟩ = pure [] := by intros; rfl)
    (hdb : (x == ("__debug__" : Str)) = false := by decide) (hd : (a == ("__debug__" : Str)) = false := by decide) (hcd : (a == ("__classdict__" : Str)) = false := by decide) : tW X (.Call (.Name x p) [.Lambda params body scope lpos] [] pos) σ H Q := by
  have hb := F.bindsN (ps := [a]) hbi
  obtain ⟨oc, od, dV, kV, doc, pm, an, cdv, ct, osl, efd, lk, hcg, _, _⟩ := F.ex
  subst efd
  refine leW (pe_lamcall (T := [(P, X.env.qual ++ "<lambda>")]) (TT := TCaught X.K CS) (t := tLm X scope body k) hg hm F.kp lk hcg hb Sg rfl hva
    (caught_gives Sg.nd hge hme hde hlf hln hdf hcf hdn hcn) TB hcode List.mem_cons_self (fun p hp _ => by rw [List.mem_singleton.mp hp]) hr L hdef hbind (fun A outer s H0 E f' c' hr' => ⟨fun pins s' σ' H' Q' I h => h A outer s H0 f' c' hr' pins s' I⟩) hdb hd hcd) ⟨S.tabs, fun H1 eN T1 => ?_⟩
  have S1 := S.tabbed hmu eN T1
  intro A outer s H0 f' c' hr'
  refine tW_mono (hbody A outer s H0 f' c' H1 _ hr' S1 fun cls H' he S' => ?_) fun v H' q => ⟨.non, rfl, q⟩
  refine ⟨true, he, fun _ ad ha => hQ cls (.ref ad) _ he (S'.ex (Ex.new ha)) ⟨ad, rfl, ?_⟩, fun z => by cases z⟩
  rw [hid_out (S'.all.out ha)]
  exact upd_same
end
end J

set_option maxHeartbeats 4000000
/-! J14: further rules. -/
namespace J
open PySem PySem.Spec PyProof.Rows L2 Evl RZ
section
variable {X : Cx} {B H : Hp} {M M0 : List Addr} {ρ ρ2 : Ro} {μ : Mu} {σ : L2.St} {pos p p2 : Pos} {a b c e lo hi : Expr} {d : D} {ds es : List D} {s : Sv} {rest : List Stmt} {D' : Ends} {i j : Int} {js : List Nat} {k l m : Bool}
/-- a test that chooses -/
theorem pt_ifExp {tc ta tb : TT} (hc : PT X c tc) (ha : PT X a ta) (hb : PT X b tb) : PT X (.IfExp c a b pos) (fun σ H Q => tc σ H fun k H1 => if k = true then ta σ H1 Q else tb σ H1 Q) := by
  refine ⟨fun pins s σ H Q I h => ?_⟩
  have e : isTrue (.IfExp c a b pos) X.env (eval (.IfExp c a b pos) X.env) = (do if ← isTrue c X.env (eval c X.env) then isTrue a X.env (eval a X.env) else isTrue b X.env (eval b X.env)) := rfl
  rw [e]
  refine wpAny_bind (thn (hc.run pins s σ H _ I h) fun k s1 ⟨H1, I1, q1⟩ => ?_)
  cases k with
  | true => exact ha.run pins s1 σ H1 Q I1 q1
  | false => exact hb.run pins s1 σ H1 Q I1 q1
theorem jt_if (hc : Jt X M c σ H k) (ha : k = true → Jt X M a σ H l) (hb : k = false → Jt X M b σ H l) : Jt X M (.IfExp c a b pos) σ H l := fun al H1 x Q q => leT (pt_ifExp pt_T pt_T pt_T) (hc al H1 x _ fun H2 y => by
  cases k with
  | true => rw [if_pos rfl]; exact ha rfl al H2 (x.trans y) Q fun H3 z => q H3 (y.trans z)
  | false => rw [if_neg Bool.false_ne_true]; exact hb rfl al H2 (x.trans y) Q fun H3 z => q H3 (y.trans z))
/-- a target of any form, the value made with effects -/
theorem sy_asgE {tg : Expr} (h : tW X e σ H fun v H1 => tG X tg v σ H1 fun σ2 H2 => tB X rest D' σ2 H2)
    (hs : swapsWithSole [tg] e pos.line X.env = pure false := by rfl) (hw : swappedStores [tg] e X.env = pure none := by rfl) (h1 : (assignEach [tg] X.env).map (·.2) = [assign tg X.env] := by rfl) : tB X (.Assign [tg] e pos :: rest) D' σ H :=
  tB_cons (ps_asg pe_W pg_G hs hw h1) h
/-- a product with a small factor -/
theorem jd_mulS (ha : Jd X M a σ H (.int i)) (hb : Jd X M b σ H (.int j)) (hc : CMul i j) : Jd X M (.BinOp a .Mult b pos) σ H (.int (i * j)) := jd_opI op_mul ha hb hc
/-- x not in a list of data -/
theorem jt_notIn (hu : X.A.units + 65 < cLine) (ha : Jd X M a σ H d) (hb : Jd X M b σ H (.list ds)) (hm : behindInMarks .NotIn b = false) (s1 : SeqAt.shaped d = true := by rfl) (s2 : SeqAt.shaped (.list ds) = true := by rfl) : Jt X M (.Compare a [.NotIn] [b] pos) σ H (!ds.any fun z => PyData.eqv z d) := fun al H1 x Q q =>
  leT (pt_cmpR (op_notInD hu) pe_W pe_W hm) (ha al H1 x _ fun v H2 y p => hb al H2 (x.trans y) _ fun w H3 z r => ⟨d, ds, (p.ex (hid_ex z)).ex hid_le, r.ex hid_le, s1, s2, _, rfl, q H3 (y.trans z)⟩)
/-- tuples: t + u, t[:n], t[n:] -/
theorem jd_cat (ha : Jd X M a σ H (.tuple ds)) (hb : Jd X M b σ H (.tuple es)) (hz : ds.length + es.length ≤ 90000) : Jd X M (.BinOp a .Add b pos) σ H (.tuple (ds ++ es)) := fun al H1 x Q q =>
  leW (pe_op op_catA pe_W pe_W) (ha al H1 x _ fun v H2 y p => hb al H2 (x.trans y) _ fun w H3 z r => by
    obtain ⟨t, xs, e1, e2, e3⟩ := dTup p
    obtain ⟨u, ys, f1, f2, f3⟩ := dTup r
    have e2' := ex_t (hid_ex (M := M) z) e2
    have e3' := e3.ex (hid_ex (M := M) z)
    refine ⟨t, u, xs, ys, e1, f1, ex_t hid_le e2', ex_t hid_le f2, sz_of (by rw [e3.len, f3.len]; omega), fun h0 => ?_, fun _ h0 => ?_, fun _ _ c hc => ?_⟩
    · subst h0
      cases e3
      exact q _ H3 (y.trans z) (f1 ▸ r)
    · subst h0
      cases f3
      rw [List.append_nil] at q
      exact q _ H3 (y.trans z) (.tup e2' e3')
    · have up := hid_ex (M := M) (Ex.new (o := .tup (xs ++ ys)) hc)
      exact q _ _ ((y.trans z).trans (Ex.new hc)) (.tup (SqT.of ((al.ex ((x.trans y).trans z)).newEx hc)) ((e3'.ex up).append (f3.ex up))))
theorem dpTake {K : PySem.W.Frag} {G : Hp} : ∀ {vs : List V} {ds : List D} (n : Nat), DpAll K G vs ds → DpAll K G (vs.take n) (ds.take n)
  | _, _, 0, h => by simpa using DpAll.nil
  | _, _, n + 1, .nil => by simpa using DpAll.nil
  | _, _, n + 1, .cons a t => by rw [List.take_succ_cons, List.take_succ_cons]; exact .cons a (dpTake n t)
theorem dpDrop {K : PySem.W.Frag} {G : Hp} : ∀ {vs : List V} {ds : List D} (n : Nat), DpAll K G vs ds → DpAll K G (vs.drop n) (ds.drop n)
  | _, _, 0, h => by simpa using h
  | _, _, n + 1, .nil => by simpa using DpAll.nil
  | _, _, n + 1, .cons a t => by rw [List.drop_succ_cons, List.drop_succ_cons]; exact dpDrop n t
theorem sIx_le {n d k : Nat} (h : k ≤ n) : HT.sIx n d (some (k : Int)) = k := by rw [HT.sIx_nat]; omega
theorem jd_slTo {n : Nat} (ha : Jd X M a σ H (.tuple ds)) (hb : Jd X M b σ H (.int i)) (hi : i = (n : Int)) (hn : n ≤ ds.length) : Jd X M (.Subscript a (.Slice none (some b) none p2) pos) σ H (.tuple (ds.take n)) := fun al H1 x Q q =>
  leW (pe_slice sl_tupA pe_W po_none (po_some pe_W)) (ha al H1 x _ fun v H2 y p => hb al H2 (x.trans y) _ fun w H3 z r => by
    obtain ⟨t, xs, e1, e2, e3⟩ := dTup p
    have e2' := ex_t (hid_ex (M := M) z) e2
    have e3' := e3.ex (hid_ex (M := M) z)
    have hl := e3.len
    refine ⟨i, dInt r, t, xs, e1, ex_t hid_le e2', fun h0 => ?_, fun _ c hc => ?_⟩
    · rw [hi, HT.sIx_none, sIx_le (by omega)] at h0
      have : ds.take n = ds := by rw [List.take_of_length_le]; omega
      rw [this] at q
      exact q _ H3 (y.trans z) (.tup e2' e3')
    · have up := hid_ex (M := M) (Ex.new (o := .tup (L2.cutV xs none (some i))) hc)
      refine q _ _ ((y.trans z).trans (Ex.new hc)) (.tup (SqT.of ((al.ex ((x.trans y).trans z)).newEx hc)) ?_)
      have e : L2.cutV xs none (some i) = xs.take n := by
        unfold L2.cutV
        rw [hi, HT.sIx_none, sIx_le (by omega), List.drop_zero, Nat.sub_zero]
      rw [e] at up ⊢
      exact dpTake n (e3'.ex up))
theorem jd_slFrom {n : Nat} (ha : Jd X M a σ H (.tuple ds)) (hb : Jd X M b σ H (.int i)) (hi : i = (n : Int)) (hn : n ≤ ds.length) : Jd X M (.Subscript a (.Slice (some b) none none p2) pos) σ H (.tuple (ds.drop n)) := fun al H1 x Q q =>
  leW (pe_slice sl_tupA pe_W (po_some pe_W) po_none) (ha al H1 x _ fun v H2 y p => hb al H2 (x.trans y) _ fun w H3 z r => by
    obtain ⟨t, xs, e1, e2, e3⟩ := dTup p
    have e2' := ex_t (hid_ex (M := M) z) e2
    have e3' := e3.ex (hid_ex (M := M) z)
    have hl := e3.len
    refine ⟨i, dInt r, t, xs, e1, ex_t hid_le e2', fun h0 => ?_, fun _ c hc => ?_⟩
    · rw [hi, sIx_le (by omega)] at h0
      have : ds.drop n = ds := by rw [h0.1, List.drop_zero]
      rw [this] at q
      exact q _ H3 (y.trans z) (.tup e2' e3')
    · have up := hid_ex (M := M) (Ex.new (o := .tup (L2.cutV xs (some i) none)) hc)
      refine q _ _ ((y.trans z).trans (Ex.new hc)) (.tup (SqT.of ((al.ex ((x.trans y).trans z)).newEx hc)) ?_)
      have e : L2.cutV xs (some i) none = xs.drop n := by
        unfold L2.cutV
        rw [hi, HT.sIx_none, sIx_le (by omega), List.take_of_length_le]
        rw [List.length_drop]; omega
      rw [e] at up ⊢
      exact dpDrop n (e3'.ex up))
end
/-! ### isinstance of a caught exception, and of a datum, with one's own class -/
def rIsV (K : PySem.W.Frag) (D : Addr) : List V → Hp → VK → Prop := fun xs H Q => ∃ (a : Addr) (c : V) (cv : Value) (b : Bool), xs = [.ref a, c] ∧ H a = some (exV (.ref D) none a) ∧ (∀ u, RelV c u → u = cv) ∧ PySem.W.kitOne K (.ref D) cv = some b ∧ Q (.bl b) H
theorem call_isV {X : Cx} {D : Addr} (C : ExcC X.K D) : CallR X (.builtin "isinstance") (rIsV X.K D) := by
  intro pins s σ H xs us Q I r h
  obtain ⟨a, c, cv, b, rfl, ha, hcv, e, q⟩ := h
  cases r with
  | cons rx rr =>
    cases rr with
    | cons rt rr =>
      cases rr
      cases rx
      have ec := hcv _ rt
      subst ec
      obtain ⟨⟨oe, hget, hz, hf⟩, _⟩ := I.hok a _ ha
      obtain ⟨vs, hv⟩ := hf
      have J : PySem.W.InstAt s.heap a oe D none := by
        obtain ⟨oc, od, oda, osl⟩ := oe
        obtain ⟨h1, h2⟩ := hz
        dsimp only at h1 h2 hv
        subst h1 h2 hv
        exact ⟨hget, rfl, rfl, trivial⟩
      exact PySem.W.kia_one (PySem.W.handS_kitx_exc C.hg C.hk C.hs C.hd C.ha C.hn C.ht C.hm) I.kIn J e (fun z => nomatch z) fun tk => ⟨.bl b, H, I.kept (t' := tk) fun _ _ z => z, rfl, q⟩
/-- isinstance(e, T), e with effects, T a class of one's own: what e made is told -/
theorem jm_isE {X : Cx} {σ : L2.St} {H : Hp} {a : Expr} {T : Str} {p p2 pos : Pos} {C : Addr} {Q : VK} {r : List V → Hp → VK → Prop} (hc : CallR X (.builtin "isinstance") r) (hm : X.mg "isinstance" = none) (hT : X.mg T = some (.ref C)) (h : tW X a σ H fun v H1 => r [v, .ref C] H1 Q) (hg : Gl X "isinstance" := by rfl) (hgT : Gl X T := by rfl)
    (hd : (T == ("__debug__" : Str)) = false := by decide) (hs : starEach [a, .Name T p2] X.env = (false, eval a X.env) :: starEach [.Name T p2] X.env := by rfl) (hs2 : starEach [.Name T p2] X.env = (false, eval (.Name T p2) X.env) :: starEach [] X.env := by rfl) (hpl : (backTo pos (starEach [.Name T p2] X.env)).any (·.1) = false := by rfl) :
    tW X (.Call (.Name "isinstance" p) [a, .Name T p2] [] pos) σ H Q :=
  leW (pe_callB hc hg hm (by decide +kernel) (pa_cons pe_W (pa_cons (pe_glob (v := .ref C) hgT hT rfl hd) pa_nil hs2) hs) (by decide) (by decide) hs hpl) h
end J

set_option maxHeartbeats 4000000
/-! J15: lcm. -/
namespace J
open PySem PySem.Spec PyProof.Rows L2 Evl RZ
def rLcm : List V → Hp → VK → Prop := fun vs H Q => ∃ a b : Nat, vs = [.int (a : Int), .int (b : Int)] ∧ 0 < a ∧ 0 < b ∧ a < 2 ^ 60 ∧ b < 2 ^ 60 ∧ Q (.int ((Nat.lcm a b : Nat) : Int)) H
theorem cr_lcm {X : Cx} : CallR X (.builtin "math.lcm") rLcm := by
  intro pins s σ H vs us Q I r h
  obtain ⟨a, b, rfl, a0, b0, ha, hb, q⟩ := h
  obtain ⟨t, u, rfl⟩ := Vals.int2 r
  have hle : Nat.lcm a b < 2 ^ 120 := by
    have h1 : Nat.lcm a b ≤ a * b := Nat.le_of_dvd (Nat.mul_pos a0 b0) (Nat.lcm_dvd (Nat.dvd_mul_right a b) (Nat.dvd_mul_left b a))
    have h2 : a * b < 2 ^ 60 * 2 ^ 60 := Nat.mul_lt_mul'' ha hb
    rw [← Nat.pow_add] at h2
    omega
  refine PySem.W.mg_lcm_v (c := ((Nat.lcm a b : Nat) : Int)) (by rw [Int.natAbs_natCast]; omega) (by rw [Int.natAbs_natCast]; omega) (by rw [Int.natAbs_natCast, Int.natAbs_natCast]; simp [Nat.lcm]) ?_ ⟨.int _, H, I.tok _, ⟨_, rfl⟩, q⟩
  rw [Int.natAbs_natCast]
  exact Nat.lt_trans (PySem.Flt.log2_lt_of (by decide) hle) (by decide)
theorem jd_lcm {X : Cx} {M : List Addr} {σ : L2.St} {H : Hp} {a b : Expr} {m n : Nat} {p pos : Pos} {x : Str} (hm : X.mg x = some (.builtin "math.lcm")) (ha : Jd X M a σ H (.int m)) (hb : Jd X M b σ H (.int n)) (h1 : 0 < m ∧ m < 2 ^ 60) (h2 : 0 < n ∧ n < 2 ^ 60) (hg : Gl X x := by rfl) (hdb : (x == ("__debug__" : Str)) = false := by decide) (hs : starEach [a, b] X.env = (false, eval a X.env) :: starEach [b] X.env := by rfl)
    (hs2 : starEach [b] X.env = (false, eval b X.env) :: starEach [] X.env := by rfl) (hpl : (backTo pos (starEach [b] X.env)).any (·.1) = false := by rfl) : Jd X M (.Call (.Name x p) [a, b] [] pos) σ H (.int ((Nat.lcm m n : Nat) : Int)) := fun al H1 y Q q =>
  leW (pe_callBfun cr_lcm hg hm (pa_cons pe_W (pa_cons pe_W pa_nil hs2) hs) hdb hs hpl) (ha al H1 y _ fun v H2 z r => hb al H2 (y.trans z) _ fun w H3 u t => ⟨m, n, by rw [dInt r, dInt t], h1.1, h2.1, h1.2, h2.2, q _ H3 (z.trans u) (.int _)⟩)
end J

set_option maxHeartbeats 4000000
/-! J16: own lists looked at; which data may be compared. -/
namespace J
open PySem PySem.Spec PyProof.Rows L2 Evl RZ
theorem lay_all {xs : List D} : PyData.canLayAll0 xs = true ↔ ∀ x ∈ xs, x.canLay0 = true := by
  induction xs with
  | nil => simp [PyData.canLayAll0]
  | cons a t ih => simp [PyData.canLayAll0, ih]
theorem dep_all {xs : List D} {n : Nat} : PyData.depthAll xs ≤ n ↔ ∀ x ∈ xs, x.depth ≤ n := by
  induction xs with
  | nil => simp [PyData.depthAll]
  | cons a t ih =>
    simp only [PyData.depthAll, List.mem_cons, forall_eq_or_imp, ← ih]
    omega
/-- data that may be compared, of at most n steps -/
def Lay (n : Nat) (d : D) : Prop := d.canLay0 = true ∧ d.depth ≤ n
theorem Lay.shaped {n : Nat} {d : D} (h : Lay n d) (hn : n ≤ 64) : SeqAt.shaped d = true := by
  unfold SeqAt.shaped
  rw [h.1, decide_eq_true (Nat.le_trans h.2 hn)]
  rfl
theorem lay_lst {n : Nat} {xs : List D} : Lay (n + 1) (.list xs) ↔ ∀ x ∈ xs, Lay n x := by
  unfold Lay
  simp only [PyData.canLay0, PyData.depth, lay_all, Nat.add_le_add_iff_right, dep_all]
  exact ⟨fun h x hx => ⟨h.1 x hx, h.2 x hx⟩, fun h => ⟨fun x hx => (h x hx).1, fun x hx => (h x hx).2⟩⟩
theorem lay_tup {n : Nat} {xs : List D} : Lay (n + 1) (.tuple xs) ↔ ∀ x ∈ xs, Lay n x := by
  unfold Lay
  simp only [PyData.canLay0, PyData.depth, lay_all, Nat.add_le_add_iff_right, dep_all]
  exact ⟨fun h x hx => ⟨h.1 x hx, h.2 x hx⟩, fun h => ⟨fun x hx => (h x hx).1, fun x hx => (h x hx).2⟩⟩
theorem lay_int {n : Nat} {i : Int} : Lay n (.int i) := ⟨rfl, Nat.zero_le _⟩
theorem lay_non {n : Nat} : Lay n .none := ⟨rfl, Nat.zero_le _⟩
theorem lay_bl {n : Nat} {b : Bool} : Lay n (.bool b) := ⟨rfl, Nat.zero_le _⟩
theorem Lay.mono {n m : Nat} {d : D} (h : Lay n d) (k : n ≤ m) : Lay m d := ⟨h.1, Nat.le_trans h.2 k⟩
theorem eqv_nil {xs : List D} : PyData.eqv (.list xs) (.list []) = xs.isEmpty := by
  cases xs <;> rfl
section
variable {X : Cx} {B H : Hp} {M0 : List Addr} {ρ : Ro} {μ : Mu} {σ : L2.St} {d : D} {pos : Pos} {e o b : Expr} {ds : List D} {a : Addr} {i : Nat}
theorem dats_all {K : PySem.W.Frag} {G G' : Hp} (up : Ex G G') : ∀ {ds : List D} {vs : List V}, Paired (fun s v => Sv.holds K G s v) (ds.map .dat) vs → DpAll K G' vs ds
  | [], _, h => by cases h; exact .nil
  | d :: ds, _, h => by cases h with | cons x y => exact .cons (Dp.ex x up) (dats_all up y)
theorem erase_sub {i : Nat} : ∀ b ∈ adr M0 (μ.eraseIdx i), b ∈ adr M0 μ := fun b hb => by
  rcases List.mem_append.mp hb with z | z
  · obtain ⟨p, hp, e⟩ := List.mem_map.mp z
    exact List.mem_append_left _ (List.mem_map.mpr ⟨p, List.mem_of_mem_eraseIdx hp, e⟩)
  · exact List.mem_append_right _ z
theorem Sy.notE (S : Sy X.K B M0 ρ μ σ H) {m : Mo} (hi : μ[i]? = some (a, m)) : a ∉ adr M0 (μ.eraseIdx i) := fun z => by
  rcases List.mem_append.mp z with z | z
  · obtain ⟨p, hp, e⟩ := List.mem_map.mp z
    obtain ⟨j, hj, hp2⟩ := List.mem_eraseIdx_iff_getElem?.mp hp
    exact S.apart hi (b := p.1) (n := p.2) hp2 (Ne.symm hj) e
  · exact S.dj.2 _ (List.mem_of_getElem? hi) z
/-- what is one's own list, as a datum, where it does not change meanwhile -/
theorem Sy.frzE (S : Sy X.K B M0 ρ μ σ H) (h : Js X (adr M0 μ) e σ H (.val (.ref a))) (hi : μ[i]? = some (a, .lst (ds.map .dat))) : Jd X (adr M0 (μ.eraseIdx i)) e σ H (.list ds) := fun _ H1 x Q q =>
  h S.all H1 x Q fun v H2 y p => by
    have p : v = .ref a := p
    subst p
    have S2 := S.ex (x.trans y)
    obtain ⟨vs, h1, h2⟩ := S2.own hi
    refine q _ H2 y (.lst (SqL.of ?_) (dats_all (hid_sub erase_sub) h2))
    rw [hid_out (S.notE hi)]
    exact h1
/-- .. a value without lists that is made of it -/
theorem Sy.lookL (S : Sy X.K B M0 ρ μ σ H) {xs : List Sv} (hi : μ[i]? = some (a, .lst xs)) (h : Jd X (adr M0 (μ.eraseIdx i)) e σ H d) (hd : noL d = true) : Jd X (adr M0 μ) e σ H d := by
  obtain ⟨vs, h1, _⟩ := S.own hi
  exact h.thaw hi h1 hd
/-- n-th of one's own list -/
theorem js_ixM {xs : List Sv} {n : Nat} {z : Int} {s : Sv} (S : Sy X.K B M0 ρ μ σ H) (ho : Js X (adr M0 μ) o σ H (.val (.ref a))) (hb : Jd X (adr M0 μ) b σ H (.int z)) (hi : μ[i]? = some (a, .lst xs)) (hz : z = (n : Int)) (hn : xs[n]? = some s) (hx : PlainIx b := by exact fun _ _ => rfl) : Js X (adr M0 μ) (.Subscript o b pos) σ H s := fun al H1 x Q q =>
  leW (pe_ix ix_list pe_W pe_W hx) (ho al H1 x _ fun v H2 y p => hb al H2 (x.trans y) _ fun w H3 z' r => by
    have p : v = .ref a := p
    subst p
    have S3 := S.ex ((x.trans y).trans z')
    obtain ⟨vs, h1, h2⟩ := S3.own hi
    obtain ⟨u, h3, h4⟩ := paired_get h2 hn
    exact ⟨a, vs, z, u, rfl, dInt r, .inl (.inl h1), by rw [hz]; exact atI_nat h3, q u H3 (y.trans z') h4⟩)
end
/-- a call that gets all of one's own objects -/
theorem jm_call1 {X : Cx} {B H : Hp} {M0 : List Addr} {ρ : Ro} {μ : Mu} {σ : L2.St} {pos p : Pos} {e : Expr} {es : List Expr} {k n : Nat} {x : Str} {ps : List Str} {Pre : List Sv → Mu → Prop} {R : List Sv → Mu → Sv → Mu → Prop} {ss : List Sv} {Q : VK} (S : Sy X.K B M0 ρ μ σ H) (F : Fd CX0 X.prog X.w X.K X.mg X.base k x ps (spM X.K n Pre R noF)) (hr : Room k X.A) (ha : Jsa X (adr M0 μ) (e :: es) σ H ss) (hn : ss.length = n) (hp : Pre ss μ)
    (kk : ∀ v s μ1' H', R ss μ s μ1' → Sy X.K B M0 ρ μ1' σ H' → s.holds X.K (hid (adr M0 μ1') H') v → Q v H') (hg : Gl X x := by rfl) (hdb : (x == ("__debug__" : Str)) = false := by decide)
    (he : starEach (e :: es) X.env = (false, eval e X.env) :: starEach es X.env := by rfl) (hpl : (backTo pos (starEach es X.env)).any (·.1) = false := by rfl) : tW X (.Call (.Name x p) (e :: es) [] pos) σ H Q := by
  have e1 : μ ++ [] = μ := List.append_nil μ
  refine jm_call (μ1 := μ) (μ2 := []) (by rw [e1]; exact S) F hr (by rw [e1]; exact ha) hn hp (fun v s μ1' H' hR S' hv => ?_) hg hdb he hpl
  rw [List.append_nil] at S' hv
  exact kk v s μ1' H' hR S' hv
theorem callM1 {X : Cx} {B H : Hp} {M0 : List Addr} {ρ : Ro} {μ : Mu} {σ : L2.St} {n : Nat} {Pre : List Sv → Mu → Prop} {R : List Sv → Mu → Sv → Mu → Prop} {ss : List Sv} {vs : List V} {Q : VK} (S : Sy X.K B M0 ρ μ σ H) (hv : Paired (fun s v => Sv.holds X.K (hid (adr M0 μ) H) s v) ss vs) (hn : ss.length = n) (hp : Pre ss μ)
    (k : ∀ v s μ1' H', R ss μ s μ1' → Sy X.K B M0 ρ μ1' σ H' → s.holds X.K (hid (adr M0 μ1') H') v → Q v H') : spM X.K n Pre R noF vs H Q E0 := by
  have e1 : μ ++ [] = μ := List.append_nil μ
  refine callM (μ1 := μ) (μ2 := []) (E := E0) (by rw [e1]; exact S) (by rw [e1]; exact hv) hn hp (fun v s μ1' H' hR S' hv => ?_) fun _ _ h => h.elim
  rw [List.append_nil] at S' hv
  exact k v s μ1' H' hR S' hv
/-- a comprehension: the tree of it is to be read -/
theorem tW_lc {X : Cx} {σ : L2.St} {H : Hp} {pos : Pos} {tg iter elt : Expr} {ifs : List Expr} {scope : Scope} {own : List (Str × Nat)} {Q : VK} (h : tLc (tI X tg iter) (tGb X scope tg) (tTsb X scope ifs) (tWb X scope elt) (own.map (·.2)) σ H Q) (ok : BlkOk X.N X.env.scope scope own) (hc : X.calm = true) (hN : X.N.Nodup)
    (hs : ∀ x, foldedSetIterable iter X.env x = pure x := by intro _; rfl) : tW X (.ListComp elt [⟨tg, iter, ifs, 0⟩] scope pos) σ H Q :=
  leW (pe_lc (own := own) (g := tGb X scope tg) (tt := tTsb X scope ifs) (te := tWb X scope elt) hc hN pi_I ok (fun s H C cl fp => ⟨fun pins s' σ' H' v u Q' I r h => h _ ⟨s, H, C, cl, fp, rfl⟩ pins s' u I r⟩)
    (fun s H C cl fp => ⟨fun pins s' σ' H' Q' I h => h _ ⟨s, H, C, cl, fp, rfl⟩ pins s' I⟩) (fun s H C cl fp => ⟨fun pins s' σ' H' Q' I h => h _ ⟨s, H, C, cl, fp, rfl⟩ pins s' I⟩) hs) h
/-- .. where what is walked is made with effects -/
theorem lcE_eff {X : Cx} {B H : Hp} {M0 : List Addr} {ρ : Ro} {σ : L2.St} {tg iter elt : Expr} {scope : Scope} {own : List (Str × Nat)} {js : List Nat} {Q : VK} (Z : Mu → List D → Prop)
    (hI : ∀ R : It → Hp → Prop, (∀ J H2 μ ds, Z μ ds → Sy X.K B M0 ρ μ σ H2 → Yl X.K (hid (adr M0 μ) H2) J ds → R J H2) → tI X tg iter σ H R) (f : D → Ro → Ro) (hjs : ∀ j ∈ js, j ∈ own.map (·.2)) (I : Mu → List D → Nat → List D → Mu → Prop) (h0 : ∀ μ ds, Z μ ds → I μ ds 0 [] μ) (hlen : ∀ μ ds, Z μ ds → ∀ i acc μ', I μ ds i acc μ' → acc.length ≤ 90000)
    (hg : ∀ X' d, Blk X scope X' → Jg X' tg js d (wip ρ (own.map (·.2))) (f d (wip ρ (own.map (·.2)))))
    (he : ∀ μ ds, Z μ ds → ∀ (i : Nat) (d : D) (acc : List D) (μ' : Mu) X' B' M' σ' H' (Q : VK), ds[i]? = some d → I μ ds i acc μ' → Blk X scope X' → Sy X'.K B' M' (f d (wip ρ (own.map (·.2)))) μ' σ' H' →
      (∀ v x μ'' H'', I μ ds (i + 1) (acc ++ [x]) μ'' → Sy X'.K B' M' (f d (wip ρ (own.map (·.2)))) μ'' σ' H'' → Dp X'.K (hid (adr M' μ'') H'') v x → Q v H'') → tW X' elt σ' H' Q)
    (k : ∀ μ ds, Z μ ds → ∀ a acc μ' H', I μ ds ds.length acc μ' → Sy X.K B M0 ρ ((a, .lst (acc.map .dat)) :: μ') σ H' → Q (.ref a) H') :
    tLc (tI X tg iter) (tGb X scope tg) (tTsb X scope []) (tWb X scope elt) (own.map (·.2)) σ H Q :=
  hI _ fun _ H2 μ ds hz S2 yl => lcE_core (H := H) S2 yl f hjs (I μ ds) (h0 μ ds hz) (hlen μ ds hz) (fun X' d hb _ => hg X' d hb) (he μ ds hz) (k μ ds hz)
end J

set_option maxHeartbeats 4000000
/-! J17: isinstance with two classes; sizes of data. -/
namespace J
open PySem PySem.Spec PyProof.Rows L2 Evl RZ
section
variable {X : Cx} {M : List Addr} {σ : L2.St} {H : Hp} {a : Expr} {d : D} {p pos : Pos}
theorem jd_isi2 {T1 T2 : Str} {t1 t2 : String} {k1 k2 : Bool} {q1 q2 q3 : Pos} {n : Nat} (hm : X.mg "isinstance" = none) (hT1 : X.mg T1 = none) (hT2 : X.mg T2 = none) (hv1 : bootBuiltins T1 = some (.type t1)) (hv2 : bootBuiltins T2 = some (.type t2)) (ha : Jd X M a σ H d) (hk1 : kitB (tyD d) t1 = some k1) (hk2 : kitB (tyD d) t2 = some k2)
    (hg : Gl X "isinstance" := by rfl) (hgT1 : Gl X T1 := by rfl) (hgT2 : Gl X T2 := by rfl) (hn1 : T1 ≠ "__name__" := by decide) (hn2 : T2 ≠ "__name__" := by decide) (hd1 : (T1 == ("__debug__" : Str)) = false := by decide) (hd2 : (T2 == ("__debug__" : Str)) = false := by decide)
    (hs1 : starEach [.Name T1 q1, .Name T2 q2] X.env = (false, eval (.Name T1 q1) X.env) :: starEach [.Name T2 q2] X.env := by rfl) (hs2 : starEach [.Name T2 q2] X.env = (false, eval (.Name T2 q2) X.env) :: starEach [] X.env := by rfl)
    (hs : starEach [a, .Tuple [.Name T1 q1, .Name T2 q2] n q3] X.env = (false, eval a X.env) :: starEach [.Tuple [.Name T1 q1, .Name T2 q2] n q3] X.env := by rfl) (hs3 : starEach [.Tuple [.Name T1 q1, .Name T2 q2] n q3] X.env = (false, eval (.Tuple [.Name T1 q1, .Name T2 q2] n q3) X.env) :: starEach [] X.env := by rfl)
    (hpl : (backTo pos (starEach [.Tuple [.Name T1 q1, .Name T2 q2] n q3] X.env)).any (·.1) = false := by rfl) :
    Jd X M (.Call (.Name "isinstance" p) [a, .Tuple [.Name T1 q1, .Name T2 q2] n q3] [] pos) σ H (.bool (k1 || k2)) := fun al H1 y Q q =>
  leW (pe_callB call_isiT hg hm (by decide +kernel) (pa_cons pe_W (pa_cons (pe_tup (pa_cons (pe_bltn (v := .ty t1) hgT1 hT1 hv1 rfl hn1 hd1) (pa_cons (pe_bltn (v := .ty t2) hgT2 hT2 hv2 rfl hn2 hd2) pa_nil hs2) hs1)) pa_nil hs3) hs) (by decide) (by decide) hs hpl) (ha al H1 y _ fun v H2 z r =>
    ⟨sz_of (by simp), fun c hc => ⟨v, c, [.ty t1, .ty t2], .type (tyD d), [.type t1, .type t2], k1 || k2, rfl, upd_same, .cons (.ty t1) (.cons (.ty t2) .nil), tyX_of ((r.ex (hid_ex (Ex.new hc))).ex hid_le), by
      refine kitAny_cons (kit_ty hk1) (fun h => ?_) (fun h => by rw [h]; rfl)
      rw [h, Bool.false_or]
      refine kitAny_cons (kit_ty hk2) (fun h2 => ?_) (fun h2 => h2)
      rw [h2]; rfl, q _ _ (z.trans (Ex.new hc)) (.bl _)⟩⟩)
end
mutual
/-- how many data stand in one -/
def sz : D → Nat
  | .list xs => szs xs + 1
  | .tuple xs => szs xs + 1
  | _ => 1
def szs : List D → Nat
  | [] => 0
  | x :: xs => sz x + szs xs
end
theorem sz_pos (d : D) : 0 < sz d := by cases d <;> simp [sz]
theorem szs_app : ∀ xs ys : List D, szs (xs ++ ys) = szs xs + szs ys
  | [], _ => by simp [szs]
  | x :: xs, ys => by simp only [List.cons_append, szs, szs_app xs ys]; omega
theorem szs_len : ∀ xs : List D, xs.length ≤ szs xs
  | [] => Nat.le_refl _
  | x :: xs => by have := szs_len xs; have := sz_pos x; simp only [List.length_cons, szs]; omega
theorem zip_same : ∀ xs : List D, zipD xs xs = xs.map fun x => .tuple [x, x]
  | [] => rfl
  | x :: xs => by simp [zipD, zip_same xs]
end J

set_option maxHeartbeats 4000000
/-! J18: calls whose arguments are made with effects; keyword calls. -/
namespace J
open PySem PySem.Spec PyProof.Rows L2 Evl RZ
section
variable {X : Cx} {B H : Hp} {M M0 : List Addr} {ρ : Ro} {μ : Mu} {σ : L2.St} {pos p : Pos} {a b c e : Expr} {es : List Expr} {k n : Nat} {x : Str} {ps : List Str} {R : List D → D → Prop} {Fl : List D → Value → Prop} {ds : List D} {d : D} {vs : List V} {Q : VK} {rest A C : List Stmt} {D' : Ends}
theorem jd_callE (F : Fd CX0 X.prog X.w X.K X.mg X.base k x ps (spD X.K n R)) (hr : Room k X.A) (ha : tA X (e :: es) σ H fun vs H2 => spD X.K n R vs H2 Q E0) (hg : Gl X x := by rfl) (hdb : (x == ("__debug__" : Str)) = false := by decide)
    (he : starEach (e :: es) X.env = (false, eval e X.env) :: starEach es X.env := by rfl) (hpl : (backTo pos (starEach es X.env)).any (·.1) = false := by rfl) : tW X (.Call (.Name x p) (e :: es) [] pos) σ H Q := by
  obtain ⟨f, fd, hm, hk, hb, ok⟩ := F.ex
  refine leW (pe_call (E := E0) ok hr hg hm hk hb .nil pass0 pa_A hdb he hpl) ?_
  have e : (fun vs H2 => spD X.K n R vs H2 Q E0) = fun vs H1 => spD X.K n R (vs ++ []) H1 Q E0 := by funext vs H2; rw [List.append_nil]
  rw [e] at ha
  exact ha
theorem spd_in (S : Sy X.K B M0 ρ μ σ H) (hv : DpAll X.K (hid (adr M0 μ) H) vs ds) (hl : ds.length = n) (hR : R ds d) (k : ∀ v H3, Sy X.K B M0 ρ μ σ H3 → Dp X.K (hid (adr M0 μ) H3) v d → Q v H3) : spD X.K n R vs H Q E0 :=
  ⟨adr M0 μ, ds, d, hl, S.all, hv, hR, fun v H3 x p => k v H3 (S.ex x) p⟩
theorem tB_if (h : tT X c σ H fun k H' => if k = true then tB X A { D' with nx := tB X rest D' } σ H' else tB X C { D' with nx := tB X rest D' } σ H') : tB X (.If c A C pos :: rest) D' σ H := tB_cons (ps_if pt_T pss_B pss_B) h
theorem tT_not {Q : Bool → Hp → Prop} (h : tT X a σ H fun k H' => Q (!k) H') : tT X (.UnaryOp .Not a pos) σ H Q := leT (pt_not pt_T) h
theorem tT_or {Q : Bool → Hp → Prop} (h : tT X a σ H fun k H' => if k = true then Q true H' else tT X b σ H' Q) : tT X (.BoolOp .Or [a, b] pos) σ H Q := leT (pw_or pt_T (pw_or1 pt_T)).pt h
theorem tT_val {Q : Bool → Hp → Prop} (h : tW X a σ H fun v H' => ∃ k, v = .bl k ∧ Q k H') (he : ∀ whole, isTrue a X.env whole = (do let v ← whole; standAt a.pos; holding [v] (truthy v)) := by intro _; rfl) : tT X a σ H Q := leT (pt_val pe_W he) h
theorem sy_parE (i j : Nat) {x y : Str} {px py pt : Pos} {kt k2 pt2} (h : tA X [a, b] σ H fun vs H' => ∃ v v2, vs = [v, v2] ∧ tB X rest D' ((σ.set i (some v)).set j (some v2)) H')
    (hc : X.calm = true) (hN : X.N.Nodup) (hij : i ≠ j) (hw : swappedStores [.Tuple [.Name x px, .Name y py] kt pt] (.Tuple [a, b] k2 pt2) X.env = pure (some [x, y])) (hi : X.N[i]? = some x := by rfl) (hj : X.N[j]? = some y := by rfl)
    (hx : X.env.scope.names.lookup x = some .local := by rfl) (hy : X.env.scope.names.lookup y = some .local := by rfl) (hs : swapsWithSole [.Tuple [.Name x px, .Name y py] kt pt] (.Tuple [a, b] k2 pt2) pos.line X.env = pure false := by rfl) :
    tB X (.Assign [.Tuple [.Name x px, .Name y py] kt pt] (.Tuple [a, b] k2 pt2) pos :: rest) D' σ H :=
  tB_cons (ps_par hc hN hi hj hij hx hy pa_A hw hs) h
end
/-! ### f(k = e) -/
theorem kbn_of {K : PySem.W.Frag} {x q : Str} {params : Arguments} {body : List Stmt} {scope : Scope} {f : Addr} {fd : FuncData} {ps ks : List Str} {n : Nat} (F : FunD K x q params body scope [] [] f fd)
    (h : ∀ (kV doc pm : Value) (an : Option Addr) (cdv ct : Value) (us ws : List Value), us.length = n → ws.length = ks.length → bindArgs (PySem.W.fnOf x q params body scope .none kV doc pm an cdv ct) ⟨us, ks.zip ws⟩ = pure (ps.zip (us ++ ws))) : KBn K fd ps n ks (fun us ws => us ++ ws) (fun vs zs => vs ++ zs) := by
  obtain ⟨oc, od, dV, kV, doc, pm, an, cdv, ct, osl, rfl, lk, hcd, hD, hK⟩ := F.ex
  rcases hD with ⟨_, rfl⟩ | ⟨e, _⟩
  · exact ⟨fun s us ws X l1 l2 => BindsTo.of_looks fun M => PySem.W.Looks.of_pure (h kV doc pm an cdv ct us ws l1 l2), fun r1 r2 => paired_app r1 r2⟩
  · exact absurd rfl e
def tCallK0 (m : Nat) (sp : Sp) (gV : List V → List V → List V) (E : XK) (tk : TA) : TE := fun σ H Q => tk σ H fun zs H2 => zs.length = m ∧ sp (gV [] zs) H2 Q E
section
variable {X : Cx} {CX : CXT} {k n : Nat} {f C : Addr} {fd : FuncData} {ps ks : List Str} {sp : Sp} {E : XK} {x : Str} {p pos : Pos} {e : Expr} {kws : List Keyword} {tk : TA} {g : List Value → List Value → List Value} {gV : List V → List V → List V}
theorem pe_callK0 (F : FnOk X.prog X.w X.K X.mg X.base CX k f fd ps sp) (hr : Room k X.A) (hg : Gl X x) (hm : X.mg x = some (.ref f)) (hk : PySem.W.keepIn X.K (.ref f) = true) (hb : KBn X.K fd ps 0 ks g gV) (hx : Passes CX X E) (hkw : PK X kws tk)
    (hall : (backToKw pos (keywordEach kws X.env)).all (·.1.isSome) = true := by rfl) (hks : (backToKw pos (keywordEach kws X.env)).filterMap (·.1) = ks := by rfl) (hdb : (x == ("__debug__" : Str)) = false := by decide)
    (hpl : ((backTo pos (starEach [] X.env)).any (·.1) || (backToKw pos (keywordEach kws X.env)).any (·.1.isNone)) = false := by rfl) :
    PE X (.Call (.Name x p) [] kws pos) (tCallK0 ks.length sp gV E tk) := by
  refine ⟨fun pins s σ H Q I h => ?_⟩
  refine wpAny_Call_Name_kw (ld_glob I hg hm ?_ hdb)
  refine PySem.W.callWith_KW0 (h₀ := X.base) I.ok.mod.kin hk hall ?_ hpl
  refine thn (hkw.run pos pins s σ H _ I h) fun ws s2 ⟨zs, H2, I2, rz, l2, q2⟩ => ⟨I2.kIn, ?_⟩
  rw [hks]
  exact run_fnN (us := []) (vs := []) F hr hb hx I2 .nil rz rfl l2 q2
end
section
variable {X : Cx} {B H : Hp} {M M0 : List Addr} {ρ : Ro} {μ : Mu} {σ : L2.St} {pos p kpos : Pos} {e : Expr} {k : Nat} {x nm : Str} {R : List D → D → Prop} {Fl : List D → Value → Prop} {d d' : D} {f C : Addr} {fd : FuncData} {Q : VK} {E : XK}
/-- f(nm = e), f of data, one parameter -/
theorem jd_callXK (ok : FnOk X.prog X.w X.K X.mg X.base (CX X.prog X.w) k f fd [nm] (spX X.K 1 R Fl)) (hm : X.mg x = some (.ref f)) (hk : PySem.W.keepIn X.K (.ref f) = true) (hb : KBn X.K fd [nm] 0 [nm] (fun us ws => us ++ ws) (fun vs zs => vs ++ zs)) (hr : Room k X.A) (ha : Jd X M e σ H d) (hR : R [d] d') (hg : Gl X x := by rfl) (hdb : (x == ("__debug__" : Str)) = false := by decide)
    (hall : (backToKw pos (keywordEach [⟨some nm, e, kpos⟩] X.env)).all (·.1.isSome) = true := by rfl) (hks : (backToKw pos (keywordEach [⟨some nm, e, kpos⟩] X.env)).filterMap (·.1) = [nm] := by rfl)
    (hpl : ((backTo pos (starEach [] X.env)).any (·.1) || (backToKw pos (keywordEach [⟨some nm, e, kpos⟩] X.env)).any (·.1.isNone)) = false := by rfl) : Jd X M (.Call (.Name x p) [] [⟨some nm, e, kpos⟩] pos) σ H d' := fun al H1 y Q q =>
  leW (pe_callK0 (E := E0) ok hr hg hm hk hb passE0 (pk_cons pe_W pk_nil) hall hks hdb hpl) (ha al H1 y _ fun v H2 z r => ⟨rfl, M, [d], rfl, (al.ex y).ex z, .cons r .nil, .inl ⟨d', hR, fun v H3 u t => q v H3 (z.trans u) t⟩⟩)
/-- C(nm = e) -/
theorem jm_makeK1 {ps : List Str} {Pre : List Sv → Mu → Prop} {Rm : List Sv → Mu → Sv → Mu → Prop} {Fm : List Sv → Mu → Value → Prop} {CX : CXT} {s : Sv} (S : Sy X.K B M0 ρ μ σ H) (Mc : Mk X.K C f) (F : FnOk X.prog X.w X.K X.mg X.base CX k f fd ps (spM X.K 2 Pre Rm Fm)) (hb : KBn X.K fd ps 1 [nm] (fun us ws => us ++ ws) (fun vs zs => vs ++ zs)) (hr : Room (k + 1) X.A) (hm : X.mg x = some (.ref C)) (hx : Passes CX X E)
    (ha : Js X (adr M0 μ) e σ H s) (hp : ∀ x0 dx, Pre [.val (.ref x0), s] [(x0, .ins C dx [])]) (hR : ∀ ss' μ' s μ'', Rm ss' μ' s μ'' → s = .dat .none)
    (kk : ∀ x0 dx μ' H', Rm [.val (.ref x0), s] [(x0, .ins C dx [])] (.dat .none) μ' → Sy X.K B M0 ρ (μ' ++ μ) σ H' → Q (.ref x0) H') (kE : ∀ x0 dx cls H', Fm [.val (.ref x0), s] [(x0, .ins C dx [])] cls → Ex H H' → E cls none H') (hg : Gl X x := by rfl)
    (hdb : (x == ("__debug__" : Str)) = false := by decide) (hall : (backToKw pos (keywordEach [⟨some nm, e, kpos⟩] X.env)).all (·.1.isSome) = true := by rfl) (hks : (backToKw pos (keywordEach [⟨some nm, e, kpos⟩] X.env)).filterMap (·.1) = [nm] := by rfl)
    (hpl : ((backTo pos (starEach [] X.env)).any (·.1) || (backToKw pos (keywordEach [⟨some nm, e, kpos⟩] X.env)).any (·.1.isNone)) = false := by rfl) : tW X (.Call (.Name x p) [] [⟨some nm, e, kpos⟩] pos) σ H Q :=
  leW (pe_makeK0 Mc F hr hg hm hb hx (pk_cons pe_W pk_nil) hall hks hdb hpl) (S.evS ha fun v H2 S2 x2 pv => ⟨rfl, rfl, fun x0 dx h1 h2 h3 => by
    exact make_core (ss := [s]) S2 (.cons pv .nil) rfl hp hR kk (fun x0 dx cls H' hF x => kE x0 dx cls H' hF (x2.trans x)) x0 dx h1 h2 h3⟩)
end
end J

set_option maxHeartbeats 4000000
/-! J19: the law's own def. -/
namespace J
open PySem PySem.Spec PyProof.Rows L2 Evl RZ LamX
section
variable {X : Cx}
theorem jm_caughtP {k : Nat} {x a e n f : Str} {CS g c P : Addr} {st : Stmt} {fd : FuncData} {params : Arguments} {body : Expr} {scope : Scope} {p lpos pos : Pos} {j : Nat} {p0 p1 p2 p3 p4 p5 p6 p7 p8 p9 p10 p11 p12 p13 : Pos} {ρ : Ro} {μ : Mu} {σ : L2.St} {H : Hp} {Q : VK}
    (S : Sy X.K (fun _ => none) [] ρ ((P, .tab (X.env.qual ++ "<lambda>")) :: μ) σ H) (hmu : ∀ p ∈ μ, noTab p.2)
    (F : FunD X.K x x (defArgs st) [.Assign [.Name f p0] (.Constant .none j p1) p2, .Try [.Expr (.Call (.Name a p3) [] [] p4) p5] [.ExceptHandler (some (.Name e p6)) (some n) [.Assign [.Name f p7] (.Name n p8) p9] p10] [] [] p11, .Return (some (.Name f p12)) p13] (defScope st) [] [] g fd) (hm : X.mg x = some (.ref g))
    (hbi : ∀ (kV doc pm : Value) (an : Option Addr) (cdv ct : Value) (us : List Value), us.length = [a].length → bindArgs (PySem.W.fnOf x x (defArgs st) [.Assign [.Name f p0] (.Constant .none j p1) p2, .Try [.Expr (.Call (.Name a p3) [] [] p4) p5] [.ExceptHandler (some (.Name e p6)) (some n) [.Assign [.Name f p7] (.Name n p8) p9] p10] [] [] p11, .Return (some (.Name f p12)) p13] (defScope st) .none kV doc pm an cdv ct) ⟨us, []⟩ = pure ([a].zip us))
    (Sg : FnScope [a, f, n] [a] (defScope st)) (hva : Vis (defScope st) a) (hge : (defScope st).names.lookup e = some .globalImplicit) (hme : X.mg e = some (.ref CS)) (hde : (e == ("__debug__" : Str)) = false)
    (hlf : (defScope st).names.lookup f = some .local) (hln : (defScope st).names.lookup n = some .local) (hdf : (f == ("__debug__" : Str)) = false) (hcf : (f == ("__classdict__" : Str)) = false) (hdn : (n == ("__debug__" : Str)) = false) (hcn : (n == ("__classdict__" : Str)) = false)
    (TB : TabB X.base X.mg c P) (hcode : X.env.code = .ref c) (hr : Room (k + 2) X.A) (L : LamS X.env.scope scope)
    (Pc : Value → Prop) (hbody : ∀ (A : Around) (outer : List Env) (s : Shared) (H0 : Hp) (f' c' : Addr) (H1 : Hp) (E : XK), Room k (A.deeper (lamEnv X scope s.heap.objs.size f' c')) → Sy X.K (fun _ => none) [] ρ ((P, .tab (X.env.qual ++ "<lambda>")) :: μ) σ H1 →
      (∀ cls H', Pc cls → PySem.W.exmOne X.K cls (.ref CS) = some true → Sy X.K (fun _ => none) [] ρ ((P, .tab (X.env.qual ++ "<lambda>")) :: μ) σ H' → E cls none H') → tW (lamCx X A outer s H0 E scope f' c') body σ H1 (fun _ H' => Q .non H'))
    (hQ : ∀ cls v H', Pc cls → PySem.W.exmOne X.K cls (.ref CS) = some true → Sy X.K (fun _ => none) [] ρ ((P, .tab (X.env.qual ++ "<lambda>")) :: μ) σ H' → (Sv.exc cls).holds X.K (hid (adr [] ((P, .tab (X.env.qual ++ "<lambda>")) :: μ)) H') v → Q v H')
    (hg : Gl X x := by rfl) (hdef : defaultsOf params X.env = ([], []) := by rfl) (hbind : ∀ (q : Str) (cl : List (Str × Addr)) (pm cv ctv : Value), bindArgs (PySem.W.kla_fn "<lambda>" q params body scope cl pm cv ctv) ⟨[], []⟩ = pure [] := by intros; rfl)
    (hdb : (x == ("__debug__" : Str)) = false := by decide) (hd : (a == ("__debug__" : Str)) = false := by decide) (hcd : (a == ("__classdict__" : Str)) = false := by decide) : tW X (.Call (.Name x p) [.Lambda params body scope lpos] [] pos) σ H Q := by
  have hb := F.bindsN (ps := [a]) hbi
  obtain ⟨oc, od, dV, kV, doc, pm, an, cdv, ct, osl, efd, lk, hcg, _, _⟩ := F.ex
  subst efd
  refine leW (pe_lamcall (T := [(P, X.env.qual ++ "<lambda>")]) (TT := TCaught X.K CS) (t := tLm X scope body k) hg hm F.kp lk hcg hb Sg rfl hva
    (caught_gives Sg.nd hge hme hde hlf hln hdf hcf hdn hcn) TB hcode List.mem_cons_self (fun p hp _ => by rw [List.mem_singleton.mp hp]) hr L hdef hbind (fun A outer s H0 E f' c' hr' => ⟨fun pins s' σ' H' Q' I h => h A outer s H0 f' c' hr' pins s' I⟩) hdb hd hcd) ⟨S.tabs, fun H1 eN T1 => ?_⟩
  have S1 := S.tabbed hmu eN T1
  intro A outer s H0 f' c' hr'
  refine tW_mono (hbody A outer s H0 f' c' H1 _ hr' S1 fun cls H' hc he S' => ?_) fun v H' q => ⟨.non, rfl, q⟩
  refine ⟨true, he, fun _ ad ha => hQ cls (.ref ad) _ hc he (S'.ex (Ex.new ha)) ⟨ad, rfl, ?_⟩, fun z => by cases z⟩
  rw [hid_out (S'.all.out ha)]
  exact upd_same
end
/-- for i in range(n), over a ground of nothing -/
theorem sy_forR {X : Cx} {B H : Hp} {M0 : List Addr} {ρ : Ro} {μ : Mu} {σ : L2.St} {pos p ppos : Pos} {tg a : Expr} {body rest : List Stmt} {D' : Ends} {js : List Nat} {n : Int} (S : Sy X.K B M0 ρ μ σ H) (hm : X.mg "range" = none) (h : Jd X (adr M0 μ) a σ H (.int n)) (hn : -(2 ^ 62) ≤ n ∧ n < 2 ^ 62) (f : D → Ro → Ro) (hg : ∀ d ρ', Jg X tg js d ρ' (f d ρ')) (I : Nat → Ro → Mu → Prop) (h0 : I 0 ρ μ)
    (hs : ∀ (i : Nat) ρ' μ' σ' H', i < n.toNat → I i ρ' μ' → Sy X.K B M0 (f (.int i) ρ') μ' σ' H' → tB X body ⟨fun σ2 H2 => ∃ ρ2 μ2, I (i + 1) ρ2 μ2 ∧ Sy X.K B M0 ρ2 μ2 σ2 H2, D'.rt, tB X rest D', fun σ2 H2 => ∃ ρ2 μ2, I (i + 1) ρ2 μ2 ∧ Sy X.K B M0 ρ2 μ2 σ2 H2⟩ σ' H')
    (hd : ∀ ρ' μ' σ' H', I n.toNat ρ' μ' → Sy X.K B M0 ρ' μ' σ' H' → tB X rest D' σ' H')
    (hp : PassesOwn (model X.prog X.w) X.A X.env X.xe) (hc : X.calm = true) (hgR : Gl X "range" := by rfl) (hs1 : starEach [a] X.env = [(false, eval a X.env)] := by rfl) (hfs : ∀ x, foldedSetIterable (.Call (.Name "range" p) [a] [] ppos) X.env x = pure x := by intro _; rfl) :
    tB X (.For tg (.Call (.Name "range" p) [a] [] ppos) body [] pos :: rest) D' σ H :=
  tB_cons (ps_for hp hc (pi_range1 hgR hm (pa_cons pe_W pa_nil hs1) hs1) pg_G pss_B hfs) (S.ev h fun v H2 S2 x2 p2 => ⟨n, by rw [dInt p2], hn.1, hn.2, by
    refine for_it walk_range (fun i σ' H' => ∃ ρ' μ', I i ρ' μ' ∧ Sy X.K B M0 ρ' μ' σ' H') ⟨ρ, μ, h0, S2⟩ (fun i σ' H' hi _ => trivial) (fun i x σ' H' H3 hi ⟨ρ', μ', hI, S'⟩ y => ?_) fun σ' H' ⟨ρ', μ', hI, S'⟩ => hd ρ' μ' σ' H' hI S'
    obtain ⟨rfl, e⟩ := y
    have e : x = V.int (0 + (i : Int)) := e
    rw [e, Int.zero_add]
    exact hg (.int i) ρ' _ _ _ _ _ _ S' (.int _) _ fun σ4 S4 _ _ => hs i ρ' μ' σ4 _ hi hI S4⟩)
/-- xs[:n] of a list -/
theorem jd_slLTo {X : Cx} {M : List Addr} {σ : L2.St} {H : Hp} {a b : Expr} {ds : List D} {i : Int} {n : Nat} {p2 pos : Pos} (ha : Jd X M a σ H (.list ds)) (hb : Jd X M b σ H (.int i)) (hi : i = (n : Int)) : Jd X M (.Subscript a (.Slice none (some b) none p2) pos) σ H (.list (ds.take n)) := fun al H1 x Q q =>
  leW (pe_slice sl_list pe_W po_none (po_some pe_W)) (ha al H1 x _ fun v H2 y p => hb al H2 (x.trans y) _ fun w H3 z r => by
    obtain ⟨t, xs, e1, e2, e3⟩ := dLst p
    have e3' := e3.ex (hid_ex (M := M) z)
    have hl := e3.len
    refine ⟨i, dInt r, t, xs, e1, ex_l hid_le (ex_l (hid_ex z) e2), fun c hc => ?_⟩
    have up := hid_ex (M := M) (Ex.new (o := .lst (L2.cutV xs none (some i))) hc)
    refine q _ _ ((y.trans z).trans (Ex.new hc)) (.lst (SqL.of ((al.ex ((x.trans y).trans z)).newEx hc)) ?_)
    have e : L2.cutV xs none (some i) = xs.take n := by
      unfold L2.cutV
      rw [hi, HT.sIx_none, HT.sIx_nat, List.drop_zero, Nat.sub_zero, hl]
      by_cases h : n ≤ ds.length
      · rw [Nat.min_eq_left h]
      · rw [Nat.min_eq_right (by omega), List.take_of_length_le (by omega), List.take_of_length_le (by omega)]
    rw [e] at up ⊢
    exact dpTake n (e3'.ex up))
/-! ### the law's def -/
/-- the script in, True out; P: the law's table of code objects, empty -/
def spLaw (K : PySem.W.Frag) (P : Addr) (n : Nat) : Sp := fun vs H Q _ => ∃ (a : Addr) (ns : List Int), vs = [.ref a] ∧ ns.length ≤ n ∧ SqL K H a (ns.map V.int) ∧ H P = some (.tbl #[]) ∧ ∀ H', Q (.bl true) H'
theorem ok_law {P : Program} {w : World} {K : PySem.W.Frag} {mg : Str → Option Value} {base : Heap} {q : Str} {st : Stmt} {f : Addr} {fd : FuncData} {N : List Str} {s0 : Str} {k n : Nat} {x : Str} (F : FunD K x q (defArgs st) (defBody st) (defScope st) [] [] f fd) (S : FnScope N [s0] (defScope st)) (TP : Addr) (TBh : ∀ c, fd.code = .ref c → TabB base mg c TP)
    (body : ∀ (c : Addr) (A : Around) (outer : List Env) (s : Shared) (H : Hp) (E : XK) (a : Addr) (ns : List Int) (D' : Ends), TabB base mg c TP → Room k (bodyX P w K mg base N q st f (.ref c) A outer s H E).A → ns.length ≤ n →
      Sy K (fun _ => none) [] (some (Sv.dat (.list (ns.map PyData.int))) :: List.replicate (N.length - 1) none) [(TP, .tab ((bodyX P w K mg base N q st f (.ref c) A outer s H E).env.qual ++ "<lambda>"))] (L2.start N [.ref a]) H →
      (∀ H', D'.rt (.bl true) H') → tB (bodyX P w K mg base N q st f (.ref c) A outer s H E) (defBody st) D' (L2.start N [.ref a]) H) : FnOk P w K mg base CX0 (k + 1) f fd [s0] (spLaw K TP n) := by
  obtain ⟨oc, od, dV, kV, doc, pm, an, cdv, ct, osl, efd, lk, hcg, _, _⟩ := F.ex
  subst efd
  obtain ⟨c, rfl⟩ := He.codeIn_ref hcg
  refine fn_of lk hcg S (fun vs H Q E h => ?_) (fun A outer s H vs Q E hr h => ?_)
  · obtain ⟨a, ns, rfl, _⟩ := h
    rfl
  · obtain ⟨a, ns, rfl, hl, hS, hP, hQ⟩ := h
    refine ⟨_, PSs.nox pss_B, body c A outer s H E a ns _ (TBh c rfl) hr hl ?_ fun H' => hQ H'⟩
    have hS' : SqL K (hid (adr [] [(TP, .tab ((bodyX P w K mg base N q st f (.ref c) A outer s H E).env.qual ++ "<lambda>"))]) H) a (ns.map V.int) := by
      rcases hS with (h | ⟨o, h⟩) | h
      · refine .inl (.inl ?_)
        rw [hid_out]
        · exact h
        · intro z
          have z : a = TP := by simpa [adr] using z
          rw [z, hP] at h; cases h
      · refine .inl (.inr ⟨o, ?_⟩)
        rw [hid_out]
        · exact h
        · intro z
          have z : a = TP := by simpa [adr] using z
          rw [z, hP] at h; cases h
      · exact .inr h
    refine ⟨fun i sv hi => ?_, by unfold L2.start; simp, fun p hp => ?_, Al.nil, (fun _ _ z => by cases z), fun _ _ => rfl, List.nodup_cons.mpr ⟨by simp, List.nodup_nil⟩, fun p _ z => by cases z⟩
    · match i, hi with
      | 0, hi =>
        cases hi
        exact ⟨.ref a, rfl, .lst hS' (dInts ns)⟩
      | i + 1, hi =>
        rw [List.getElem?_cons_succ, List.getElem?_replicate] at hi
        split at hi <;> cases hi
    · obtain rfl := List.mem_singleton.mp hp
      exact ⟨#[], hP, True.intro, fun pos cv z => by
        have z : codeAmong pos [] = some cv := z
        simp [codeAmong] at z⟩
end J

set_option maxHeartbeats 4000000
/-! J20: zip of any two of lists and tuples. -/
namespace J
open PySem PySem.Spec PyProof.Rows L2 Evl RZ
/-- b: a tuple, else a list -/
def SqB (b : Bool) (K : PySem.W.Frag) (H : Hp) (a : Addr) (xs : List V) : Prop := match b with
  | true => SqT K H a xs
  | false => SqL K H a xs
def ItB (b : Bool) (h : Heap) (it l : Addr) (i : Nat) : Prop := match b with
  | true => h.IsTupleIter it l i
  | false => h.IsListIter it l i
def SeqB (b : Bool) (h : Heap) (l : Addr) (items : Array Value) : Prop := match b with
  | true => h.IsTuple l items
  | false => h.IsList l items
theorem drawsB {prog : Program} {w : World} {A : Around} (b : Bool) (hh : A.handled = none) (it l : Addr) (hne : l ≠ it) (items : Array Value) : Draws prog w A it [it, l] items.size (fun i v => items[i]? = some v) (fun i h => ItB b h it l i ∧ SeqB b h l items) := by
  cases b with
  | true => exact Draws.tuple hh it l hne items
  | false => exact Draws.list hh it l hne items
theorem itB_obj {b : Bool} {h : Heap} {it l : Addr} {i : Nat} (p : ItB b h it l i) : ∃ o, h.get? it = some o ∧ ∀ v, o.data ≠ .cell v := by
  cases b with
  | true => obtain ⟨o, e, _, d⟩ := (show h.IsTupleIter it l i from p); exact ⟨o, e, fun v q => by rw [d] at q; cases q⟩
  | false => obtain ⟨o, e, _, d⟩ := (show h.IsListIter it l i from p); exact ⟨o, e, fun v q => by rw [d] at q; cases q⟩
theorem itB_at {b : Bool} {h h' : Heap} {it l : Addr} {i : Nat} (p : ItB b h it l i) (k : ∀ o, h.get? it = some o → h'.get? it = some o) : ItB b h' it l i := by
  cases b with
  | true => exact (show h.IsTupleIter it l i from p).at k
  | false => exact (show h.IsListIter it l i from p).at k
theorem sqB_read {b : Bool} {X : Cx} {pins : List (Addr × Obj)} {σ : L2.St} {H : Hp} {s : Shared} (I : Inv X pins σ H s) {a : Addr} {xs : List V} (h : SqB b X.K H a xs) : ∃ its : List Value, Vals xs its ∧ SeqB b s.heap a its.toArray ∧ a < s.heap.objs.size := by
  cases b with
  | true =>
    obtain ⟨its, rv, p, _⟩ := I.tuple h
    exact ⟨its, rv, isTuple_of p, by obtain ⟨o, ho, _⟩ := p; exact Heap.lt_size ho⟩
  | false =>
    obtain ⟨its, rv, p, _⟩ := I.list h
    exact ⟨its, rv, p.isList, p.lt⟩
theorem sqB_inj {b : Bool} {X : Cx} {pins : List (Addr × Obj)} {σ : L2.St} {H : Hp} {s : Shared} (I : Inv X pins σ H s) {a : Addr} {xs ys : List V} (h : SqB b X.K H a xs) (h2 : SqB b X.K H a ys) : xs = ys := by
  cases b with
  | true => exact I.tuple_inj h h2
  | false => exact I.list_inj h h2
/-- two of them, the items in new pairs -/
def ItzB (b1 b2 : Bool) (K : PySem.W.Frag) (a b : Addr) : It :=
  ⟨fun i H => ∃ (xs ys : List V) (x y : V), SqB b1 K H a xs ∧ SqB b2 K H b ys ∧ xs[i]? = some x ∧ ys[i]? = some y,
    fun i H v H' => ∃ T x y, v = .ref T ∧ H T = none ∧ H' = upd H T (.tup [x, y]) ∧ (∀ xs, SqB b1 K H a xs → xs[i]? = some x) ∧ ∀ ys, SqB b2 K H b ys → ys[i]? = some y,
    fun i H => ∃ xs ys : List V, SqB b1 K H a xs ∧ SqB b2 K H b ys ∧ i ≤ xs.length ∧ i ≤ ys.length ∧ (i = xs.length ∨ i = ys.length)⟩
theorem turn_zipB {P : Program} {w : World} {K : PySem.W.Frag} {elts : List Expr} {kk : Nat} {tpos : Pos} {b1 b2 : Bool} {a b z TI TO i1 i2 : Addr} (D : ZipSep2 z TI TO i1 i2 [i1, a] [i2, b]) (na : a ≠ i1) (nb : b ≠ i2) :
    Turn P w K (.Tuple elts kk tpos) (ItzB b1 b2 K a b) [z, TI, TO, i1, i2] z (fun i h => IsZip h z TI TO .none ∧ IsTupOf2 h TI (.ref i1) (.ref i2) ∧ (∃ x y, IsTupOf2 h TO x y) ∧ ItB b1 h i1 a i ∧ ItB b2 h i2 b i) where
  mem := by simp
  obj := fun i h st c hc => by
    obtain ⟨hz, hTI, ⟨x, y, hTO⟩, h1, h2⟩ := st
    simp only [List.mem_cons, List.not_mem_nil, or_false] at hc
    rcases hc with rfl | rfl | rfl | rfl | rfl
    · exact ⟨_, hz, fun v q => nomatch q⟩
    · exact ⟨_, hTI, fun v q => nomatch q⟩
    · exact ⟨_, hTO, fun v q => nomatch q⟩
    · exact itB_obj h1
    · exact itB_obj h2
  keep := fun i h h' st k => by
    obtain ⟨hz, hTI, ⟨x, y, hTO⟩, h1, h2⟩ := st
    exact ⟨k z (by simp) _ hz, k TI (by simp) _ hTI, ⟨x, y, k TO (by simp) _ hTO⟩, itB_at h1 fun o q => k i1 (by simp) o q, itB_at h2 fun o q => k i2 (by simp) o q⟩
  item := by
    intro X hP hw hK hc i pins s σ H E I hf st hg
    subst hP hw hK
    obtain ⟨hz, hTI, ⟨x0, y0, hTO⟩, h1, h2⟩ := st
    obtain ⟨xs, ys, x, y, hqx, hqy, hx, hy⟩ := hg
    obtain ⟨its, rv, p, pl⟩ := sqB_read I hqx
    obtain ⟨its2, rv2, p2, pl2⟩ := sqB_read I hqy
    obtain ⟨u, hu, ru⟩ := rv.get hx
    obtain ⟨u2, hu2, ru2⟩ := rv2.get hy
    have hzl : z < s.heap.objs.size := Heap.lt_size hz
    have l1 : i < its.toArray.size := by have := (List.getElem?_eq_some_iff.mp hu).1; simpa using this
    have l2 : i < its2.toArray.size := by have := (List.getElem?_eq_some_iff.mp hu2).1; simpa using this
    refine wpAny_pyNext_zipD2_item D (drawsB b1 (A := X.A.in1) (I.ok.hd hc) i1 a na its.toArray) (drawsB b2 (A := X.A.in1) (I.ok.hd hc) i2 b nb its2.toArray) hz hTI hTO ⟨h1, p⟩ ⟨h2, p2⟩ l1 l2 fun x1 x2 h' tk e1 e2 z' TO' st1 st2 hT hsz hk => ?_
    have e1 : u = x1 := by
      have hu' : its.toArray[i]? = some u := by simpa using hu
      rw [hu'] at e1; exact Option.some.inj e1
    have e2 : u2 = x2 := by
      have hu' : its2.toArray[i]? = some u2 := by simpa using hu2
      rw [hu'] at e2; exact Option.some.inj e2
    subst e1 e2
    refine ⟨_, rfl, wpAny_letOwnedTupleGo_zip (s := { s with heap := h', toks := tk }) z' fun h'' z'' sb => ?_⟩
    have hT2 : h''.get? s.heap.objs.size = some { cls := .type "tuple", data := .seq #[u, u2] } := (sb.2 _ (Nat.ne_of_gt hzl)).trans hT
    have new : ObjOk X.prog X.w (upd H s.heap.objs.size (.tup [x, y])) h'' s.heap.objs.size (.tup [x, y]) :=
      ⟨by show 2 ≤ sizeLine; decide, [u, u2], .cons ru (.cons ru2 .nil), ⟨_, hT2, rfl, _, rfl⟩⟩
    have I1 : Inv X pins σ (upd H s.heap.objs.size (.tup [x, y])) { s with heap := h'', toks := tk } :=
      I.turnedNew (ch := [z, TI, TO, i1, i2]) (fun c o hb q => (sb.2 c (fun q' => hb (by simp [q']))).trans (hk c o (fun q' => hb (by simp [q'])) (fun q' => hb (by simp [q'])) (fun q' => hb (by simp [q'])) (fun q' => hb (by simp [q'])) q)) hf (Nat.le_refl _) new
    refine ⟨.ref s.heap.objs.size, _, I1, rfl, ⟨_, x, y, rfl, I.hok.fresh (Nat.le_refl _), rfl, fun l hl => by rw [sqB_inj I hl hqx]; exact hx, fun l hl => by rw [sqB_inj I hl hqy]; exact hy⟩, ⟨z'', ?_, ⟨u, u2, ?_⟩, ?_, ?_⟩, fun c hcm => ?_⟩
    · exact (sb.2 _ D.TIz).trans (hk _ _ D.TIz D.TITO D.TIi1 D.TIi2 hTI)
    · exact (sb.2 _ D.TOz).trans TO'
    · exact itB_at st1.1 fun o q => (sb.2 _ (Ne.symm D.zi1)).trans q
    · exact itB_at st2.1 fun o q => (sb.2 _ (Ne.symm D.zi2)).trans q
    · have hlt : c < s.heap.objs.size := by
        simp only [List.mem_cons, List.not_mem_nil, or_false] at hcm
        rcases hcm with rfl | rfl | rfl | rfl | rfl
        · exact hzl
        · exact Heap.lt_size hTI
        · exact Heap.lt_size hTO
        · obtain ⟨_, e, _⟩ := itB_obj h1; exact Heap.lt_size e
        · obtain ⟨_, e, _⟩ := itB_obj h2; exact Heap.lt_size e
      rw [upd_ne (Nat.ne_of_lt hlt)]
      exact (hf c hcm).1
  done := by
    intro X hP hw hK hc i pins s σ H E I hf st hg
    subst hP hw hK
    obtain ⟨hz, hTI, ⟨x0, y0, hTO⟩, h1, h2⟩ := st
    obtain ⟨xs, ys, hqx, hqy, m1, m2, hend⟩ := hg
    obtain ⟨its, rv, p, pl⟩ := sqB_read I hqx
    obtain ⟨its2, rv2, p2, pl2⟩ := sqB_read I hqy
    have l1 := rv.length
    have l2 := rv2.length
    exact wpAny_pyNext_zipD2_end D (drawsB b1 (A := X.A.in1) (I.ok.hd hc) i1 a na its.toArray) (drawsB b2 (A := X.A.in1) (I.ok.hd hc) i2 b nb its2.toArray) hz hTI hTO ⟨h1, p⟩ ⟨h2, p2⟩ (by simp; omega) (by simp; omega) (by simp; omega) fun h' tk hk => ⟨rfl, by
      obtain ⟨f0, f1, f2, f3, f4, f5⟩ := hf z (by simp)
      exact I.turnedL (t' := tk) (ch := [z, TI, TO, i1, i2]) (fun c o hb q => hk c o (fun q' => hb (by simp [q'])) (fun q' => hb (by simp [q'])) (fun q' => hb (by simp [q'])) (fun q' => hb (by simp [q'])) q) hf⟩
  self := fun A i s Q E st h => wpAny_pyIter_zip st.1 h
def iZipB (K : PySem.W.Frag) (ta : TA) : TI := fun σ H R => ta σ H fun vs H1 => ∃ b1 b2 a b xs ys, vs = [.ref a, .ref b] ∧ SqB b1 K H1 a xs ∧ SqB b2 K H1 b ys ∧ R (ItzB b1 b2 K a b) H1
def itO (b : Bool) (l : Addr) : Obj := match b with
  | true => { cls := .type "tuple_iterator", data := .fields #[.ref l, .int 0 0] }
  | false => { cls := .type "list_iterator", data := .fields #[.ref l, .int 0 0] }
theorem beginsB (b : Bool) (l : Addr) (items : Array Value) : Begins (.ref l) (itO b l) fun h => SeqB b h l items := by
  cases b with
  | true => exact begins_tuple l items
  | false => exact begins_list l items
theorem itB_new {b : Bool} {h : Heap} {it l : Addr} (e : h.get? it = some (itO b l)) : ItB b h it l 0 := by
  cases b with
  | true => exact ⟨_, e, rfl, rfl⟩
  | false => exact ⟨_, e, rfl, rfl⟩
theorem pi_zipB {X : Cx} {e e2 : Expr} {ta : TA} {p pos tpos : Pos} {elts : List Expr} {kk : Nat} (hg : Gl X "zip") (hm : X.mg "zip" = none) (ha : PA X [e, e2] ta)
    (hs : starEach [e, e2] X.env = (false, eval e X.env) :: starEach [e2] X.env := by rfl) (hpl : (backTo pos (starEach [e2] X.env)).any (·.1) = false := by rfl) :
    PI X (.Tuple elts kk tpos) (.Call (.Name "zip" p) [e, e2] [] pos) (iZipB X.K ta) := by
  refine ⟨fun pins s σ H R I h => ?_⟩
  refine Call_ (ld_blt I hg hm PyProof.Rows.boot_zip (PyProof.Rows.callWith_type1 (thn (ha.run pos pins s σ H _ I h) fun us s1 ⟨vs, H1, I1, r1, q1⟩ => ?_) hs hpl))
  obtain ⟨b1, b2, a, b, xs, ys, ex, hqx, hqy, q⟩ := q1
  subst ex
  cases r1 with
  | cons r rr =>
    cases rr with
    | cons r' rr =>
      cases rr
      cases r
      cases r'
      obtain ⟨its, rv, p1, pl1⟩ := sqB_read I1 hqx
      obtain ⟨its2, rv2, p2, pl2⟩ := sqB_read I1 hqy
      refine zip_begins2 (beginsB b1 a its.toArray) (beginsB b2 b its2.toArray) p1 p2 fun h' hz hTI hTO g1 g2 hsz hk => wpAny_pyIter_zip hz ?_
      have I2 : Inv X pins σ H1 { s1 with heap := h' } := I1.kept (t' := s1.toks) hk
      refine ⟨s1.heap.objs.size + 4, [s1.heap.objs.size + 4, s1.heap.objs.size + 2, s1.heap.objs.size + 3, s1.heap.objs.size, s1.heap.objs.size + 1], _, _, H1, rfl, I2, turn_zipB (zip_sep2 (N := s1.heap.objs.size) (fp1 := [a]) (fp2 := [b]) (fun c hc => by rw [List.mem_singleton.mp hc]; exact pl1) (fun c hc => by rw [List.mem_singleton.mp hc]; exact pl2)) (Nat.ne_of_lt pl1) (Nat.ne_of_lt (Nat.lt_succ_of_lt pl2)), ⟨hz, hTI, ⟨_, _, hTO⟩, itB_new g1, itB_new g2⟩, fun c hcm => ?_, q⟩
      have hle : s1.heap.objs.size ≤ c := by
        simp only [List.mem_cons, List.not_mem_nil, or_false] at hcm
        rcases hcm with rfl | rfl | rfl | rfl | rfl
        · exact Nat.le_add_right _ _
        · exact Nat.le_add_right _ _
        · exact Nat.le_add_right _ _
        · exact Nat.le_refl _
        · exact Nat.le_add_right _ _
      exact I1.fpOk hle (I1.hok.fresh hle)
theorem sqB_ex {b : Bool} {K : PySem.W.Frag} {H H' : Hp} {a : Addr} {xs : List V} (e : Ex H H') (h : SqB b K H a xs) : SqB b K H' a xs := by
  cases b with
  | true => exact ex_t e h
  | false => exact ex_l e h
theorem walk_zipB {K : PySem.W.Frag} {b1 b2 : Bool} {a b : Addr} {xs ys : List V} {n : Nat} (hn : n = min xs.length ys.length) : Walk (ItzB b1 b2 K a b) n (fun H => SqB b1 K H a xs ∧ SqB b2 K H b ys) (YPair (fun i => xs[i]?) (fun i => ys[i]?)) := by
  subst hn
  refine ⟨fun i _ hi q => ?_, fun _ q => ⟨xs, ys, q.1, q.2, by omega, by omega, by omega⟩, fun i H v H' _ q y => ?_⟩
  · have h1 : i < xs.length := by omega
    have h2 : i < ys.length := by omega
    exact ⟨xs, ys, xs[i], ys[i], q.1, q.2, by simp [h1], by simp [h2]⟩
  · obtain ⟨T, x, z, h1, h2, h3, h4, h5⟩ := y
    exact ⟨T, x, z, h1, h2, h3, h4 xs q.1, h5 ys q.2⟩
/-- a datum that is a list or a tuple of ds -/
def seqD (b : Bool) (ds : List D) : D := match b with
  | true => .tuple ds
  | false => .list ds
theorem dSeq {K : PySem.W.Frag} {H : Hp} {b : Bool} {v : V} {ds : List D} (h : Dp K H v (seqD b ds)) : ∃ a xs, v = .ref a ∧ SqB b K H a xs ∧ DpAll K H xs ds := by
  cases b with
  | true => exact dTup h
  | false => exact dLst h
theorem jw_zipB {X : Cx} {M : List Addr} {a b : Expr} {σ : L2.St} {H : Hp} {ds es : List D} {p pos : Pos} {b1 b2 : Bool} {elts : List Expr} {kk : Nat} {tpos : Pos} (hm : X.mg "zip" = none) (h : Jd X M a σ H (seqD b1 ds)) (h2 : Jd X M b σ H (seqD b2 es)) (hg : Gl X "zip" := by rfl) (hs : starEach [a, b] X.env = (false, eval a X.env) :: starEach [b] X.env := by rfl)
    (hs2 : starEach [b] X.env = (false, eval b X.env) :: starEach [] X.env := by rfl) (hpl : (backTo pos (starEach [b] X.env)).any (·.1) = false := by rfl) : Jw X M (.Tuple elts kk tpos) (.Call (.Name "zip" p) [a, b] [] pos) σ H (zipD ds es) := fun al H1 x R k =>
  leI (pi_zipB hg hm (pa_cons pe_W (pa_cons pe_W pa_nil hs2) hs) hs hpl) (h al H1 x _ fun v H2 y q => h2 al H2 (x.trans y) _ fun w H3 z r => by
    obtain ⟨t, xs, e1, e2, e3⟩ := dSeq q
    obtain ⟨u, ys, f1, f2, f3⟩ := dSeq r
    have e2' := sqB_ex (hid_ex (M := M) z) e2
    have e3' := e3.ex (hid_ex (M := M) z)
    exact ⟨b1, b2, t, u, xs, ys, by rw [e1, f1], sqB_ex hid_le e2', sqB_ex hid_le f2, k _ H3 (y.trans z) ⟨_, _, walk_zipB (by rw [zipD_len, e3.len, f3.len]), fun H4 g => ⟨sqB_ex g e2', sqB_ex g f2⟩, yl_pair (fun i d hd => e3'.get hd) (fun i d hd => f3.get hd)⟩⟩)
end J

set_option maxHeartbeats 4000000
/-! J21: a tuple turned round; more of lists that change; loops over what is made with effects; two keywords. -/
namespace J
open PySem PySem.Spec PyProof.Rows L2 Evl RZ
/-! ### t[::-1] -/
section
variable {prog : Program} {w : World} {A : Around} {E : Value → Shared → Prop} {s : Shared}
theorem rev_places (n : Nat) : Builtin.Slice.slicePlaces ((n : Int) - 1) (-1) (-1) = n := by
  unfold Builtin.Slice.slicePlaces
  have h1 : ¬ ((-1 : Int) > 0) := by decide
  have h2 : (-(-1) : Int) = 1 := by decide
  rw [if_neg h1, h2]
  simp only [Int.ediv_one]
  split <;> omega
theorem rev_pick (xs : Array Value) : ((List.range xs.size).filterMap fun (m : Nat) => xs[(((xs.size : Nat) : Int) - 1 + (m : Int) * (-1)).toNat]?).toArray = xs.toList.reverse.toArray := by
  congr 1
  refine List.ext_getElem? fun i => ?_
  have e : (List.range xs.size).filterMap (fun (m : Nat) => xs[(((xs.size : Nat) : Int) - 1 + (m : Int) * (-1)).toNat]?) = xs.toList.reverse := by
    have key : ∀ n, n ≤ xs.size → (List.range n).filterMap (fun (m : Nat) => xs[(((xs.size : Nat) : Int) - 1 + (m : Int) * (-1)).toNat]?) = xs.toList.reverse.take n := by
      intro n
      induction n with
      | zero => intro _; simp
      | succ n ih =>
        intro hn
        have hi : (((xs.size : Nat) : Int) - 1 + (n : Int) * (-1)).toNat = xs.size - 1 - n := by omega
        have hg : xs[xs.size - 1 - n]? = some (xs[xs.size - 1 - n]'(by omega)) := Array.getElem?_eq_getElem (by omega)
        rw [List.range_succ, List.filterMap_append, ih (by omega), List.take_add_one]
        congr 1
        rw [List.filterMap_cons, hi, hg]
        have hr : xs.toList.reverse[n]? = some (xs[xs.size - 1 - n]'(by omega)) := by
          rw [List.getElem?_reverse (by simpa using (by omega : n < xs.size))]
          simpa using hg
        rw [hr]
        rfl
    rw [key xs.size (Nat.le_refl _), List.take_of_length_le (by simp)]
  rw [e]
theorem getItem_tuple_rev {t sl : Addr} {items : Array Value} {tk : Tok} {Q : Value → Shared → Prop} (ht : IsTup s.heap t items) (hs : s.heap.IsSliceOf sl .none .none (.int (-1) tk))
    (h : Q (.ref s.heap.objs.size) { s with heap := s.heap.push { cls := .type "tuple", data := .seq items.toList.reverse.toArray } }) (hsz : items.size ≤ sizeLine) : wpAny (model prog w) A (getItem (.ref t) (.ref sl)) Q E s := by
  have hok : sizeOk (.seq items.toList.reverse.toArray) := by
    show items.toList.reverse.toArray.size ≤ sizeLine
    simpa using hsz
  obtain ⟨os, hos, hcs, hds⟩ := id hs
  have hTs : s.TypeIs (.ref sl) "slice" := ⟨os, hos, hcs⟩
  unfold getItem
  try with_reducible refine wpAny_holding ?_
  first | refine wpAny_bind (wpAny_pure ?_) | skip
  refine wpAny_bind (wpAny_sequenceKey ht.typeIs (by decide) ?_)
  refine wpAny_bind (wpAny_callSpecial?_slot (name := Str.ofString "__getitem__") ht.typeIs PyProof.Rows.slot_tuple_getitem
    (wpAny_call_entry PyProof.Rows.slot_tuple_getitem ht.typeIs entry_tuple_getitem ?_ (args_tuple_getitem _ _)))
  show wpAny _ _ (Builtin.Tuple.tupleItemsOf (.ref t) >>= _) _ _ s
  refine wpAny_bind (tupleItemsOf_ ht ?_)
  refine wpAny_bind (wpAny_typeOf hTs ?_)
  rw [if_pos (by decide)]
  refine wpAny_bind ?_
  unfold Builtin.Slice.sliceApplied Builtin.Slice.sliceFields
  refine wpAny_bind (wpAny_bind (wpAny_field hos hds (x := .none) rfl (wpAny_bind (wpAny_field hos hds (x := .none) rfl (wpAny_bind (wpAny_field hos hds (x := .int (-1) tk) rfl (wpAny_pure ?_)))))))
  refine wpAny_bind (slicePart_int ?_)
  show wpAny _ _ (if ((-1 : Int) == 0) = true then _ else _) _ _ s
  rw [if_neg (by decide)]
  refine wpAny_bind (slicePart_none (wpAny_bind (slicePart_none (wpAny_bind (wpAny_pure ?_)))))
  have ea : Builtin.Slice.sliceAdjust none none (-1) ((items.size : Nat) : Int) = (((items.size : Nat) : Int) - 1, -1) := by
    unfold Builtin.Slice.sliceAdjust
    simp
  show wpAny _ _ (match Builtin.Slice.sliceAdjust none none (-1) ((items.size : Nat) : Int) with | (lo, hi) => pure (lo, (-1 : Int), Builtin.Slice.slicePlaces lo hi (-1))) _ _ s
  rw [ea]
  show wpAny _ _ (pure (((items.size : Nat) : Int) - 1, (-1 : Int), Builtin.Slice.slicePlaces (((items.size : Nat) : Int) - 1) (-1) (-1))) _ _ s
  rw [rev_places]
  refine wpAny_pure ?_
  have hno : ¬ (((((items.size : Nat) : Int) - 1) == 0 && (-1 : Int) == 1 && items.size == items.size) = true) := by simp
  show wpAny _ _ (if ((((items.size : Nat) : Int) - 1) == 0 && (-1 : Int) == 1 && items.size == items.size) = true then _ else _) _ _ s
  rw [if_neg hno, rev_pick]
  first
    | exact wpAny_bind (m := Builtin.Tuple.tupleExact _) (wpAny_newObj_type (wpAny_pure ⟨_, rfl, wpAny_pure h⟩) hok)
    | exact wpAny_bind (m := Builtin.Tuple.tupleExact _) (wpAny_newObj_type (wpAny_bind (wpAny_pure (wpAny_pure ⟨_, rfl, wpAny_pure h⟩))) hok)
    | exact wpAny_bind (wpAny_bind (m := Builtin.Tuple.tupleExact _) (wpAny_newObj_type (wpAny_pure (wpAny_pure ⟨_, rfl, wpAny_pure h⟩)) hok))
    | exact wpAny_bind (wpAny_bind (m := Builtin.Tuple.tupleExact _) (wpAny_newObj_type (wpAny_pure ⟨_, rfl, wpAny_pure h⟩) hok))
end
section
variable {X : Cx} {B H : Hp} {M M0 : List Addr} {ρ : Ro} {μ : Mu} {σ : L2.St} {pos pos' apos p p1 p2 p3 : Pos} {a b c e o tg iter : Expr} {d : D} {ds es : List D} {rest body : List Stmt} {D' : Ends} {i j : Int} {js : List Nat} {ad : Addr} {n : Nat}
def tRevT (K : PySem.W.Frag) (te : TE) : TE := fun σ H Q => te σ H fun x H1 => ∃ a xs, x = .ref a ∧ SqT K H1 a xs ∧ ∀ p, H1 p = none → Q (.ref p) (upd H1 p (.tup xs.reverse))
theorem pe_revT {e : Expr} {te : TE} {k : Nat} {p1 p2 p3 pos : Pos} (he : PE X e te) : PE X (.Subscript e (.Slice none none (some (.UnaryOp .USub (.Constant (.int 1) k p1) p2)) p3) pos) (tRevT X.K te) := by
  refine ⟨fun pins s σ H Q I h => ?_⟩
  refine Subscript_ (thn (he.run pins s σ H _ I h) fun v s1 ⟨x, H1, I1, r1, q1⟩ => ?_)
  obtain ⟨a, xs, ex, hx, q⟩ := q1
  subst ex
  cases r1
  have hst : PO X (some (.UnaryOp .USub (.Constant (.int 1) k p1) p2)) (tPart (tUn (rU fun i => .int (-i)) (tC (.int 1)))) := po_some (pe_un un_neg pe_int)
  refine wpAny_Slice (thn (po_none.run pins s1 σ H1 (fun o H2 => o = none ∧ H2 = H1) I1 ⟨rfl, rfl⟩) fun vl s2 ⟨l, H2, I2, pl, el, e2⟩ => ?_)
  subst el e2
  refine thn (po_none.run pins s2 σ H2 (fun o H3 => o = none ∧ H3 = H2) I2 ⟨rfl, rfl⟩) fun vu s3 ⟨u, H3, I3, pu, eu, e3⟩ => ?_
  subst eu e3
  refine thn (hst.run pins s3 σ H3 (fun o H4 => o = some (-1) ∧ H4 = H3) I3 ⟨1, rfl, -1, rfl, rfl, rfl⟩) fun vs s4 ⟨o, H4, I4, ps, eo, e4⟩ => ?_
  subst eo e4
  have I5 : Inv X pins σ H4 { s4 with heap := s4.heap.push { cls := .type "slice", data := .fields #[vl, vu, vs] } } := I4.kept (t' := s4.toks) fun b ob q => Heap.get?_push_of_some _ q
  obtain ⟨its, r, ht, hz⟩ := I5.tuple hx
  have hlen := r.length
  have hsl := Heap.IsSliceOf.new s4.heap vl vu vs
  cases pl
  cases pu
  cases ps
  refine tail_any (ops := [.ref a, .ref s4.heap.objs.size]) ht.typeIs (PyProof.Rows.slot_tuple_getitem.lookup) ?_ (by with_unfolding_all rfl)
  refine getItem_tuple_rev ht hsl ?_ (by rw [List.size_toArray]; omega)
  refine ⟨.ref _, _, I5.laid (t' := s4.toks) (o := .tup xs.reverse) (fun b ob q => Heap.get?_push_of_some _ q) (Nat.le_refl _) ?_, rfl, q _ (I5.hok.fresh (Nat.le_refl _))⟩
  exact ⟨by rw [List.length_reverse]; exact hz, _, r.reverse, IsTup.new _ _⟩
theorem dpRev {K : PySem.W.Frag} {G : Hp} : ∀ {vs : List V} {ds : List D}, DpAll K G vs ds → DpAll K G vs.reverse ds.reverse
  | _, _, .nil => .nil
  | _, _, .cons a t => by rw [List.reverse_cons, List.reverse_cons]; exact (dpRev t).append (.cons a .nil)
theorem jd_revT {k : Nat} (ha : Jd X M a σ H (.tuple ds)) : Jd X M (.Subscript a (.Slice none none (some (.UnaryOp .USub (.Constant (.int 1) k p1) p2)) p3) pos) σ H (.tuple ds.reverse) := fun al H1 x Q q =>
  leW (pe_revT pe_W) (ha al H1 x _ fun v H2 y p => by
    obtain ⟨t, xs, e1, e2, e3⟩ := dTup p
    refine ⟨t, xs, e1, ex_t hid_le e2, fun c hc => ?_⟩
    have up := hid_ex (M := M) (Ex.new (o := .tup xs.reverse) hc)
    exact q _ _ (y.trans (Ex.new hc)) (.tup (SqT.of ((al.ex (x.trans y)).newEx hc)) (dpRev (e3.ex up))))
/-- t[-1:] -/
theorem jd_slLast (ha : Jd X M a σ H (.tuple ds)) (hb : Jd X M b σ H (.int (-1))) (h : ds ≠ []) : Jd X M (.Subscript a (.Slice (some b) none none p2) pos) σ H (.tuple (ds.drop (ds.length - 1))) := fun al H1 x Q q =>
  leW (pe_slice sl_tupA pe_W (po_some pe_W) po_none) (ha al H1 x _ fun v H2 y p => hb al H2 (x.trans y) _ fun w H3 z r => by
    obtain ⟨t, xs, e1, e2, e3⟩ := dTup p
    have e2' := ex_t (hid_ex (M := M) z) e2
    have e3' := e3.ex (hid_ex (M := M) z)
    have hl := e3.len
    have hpos : 0 < ds.length := List.length_pos_iff.mpr h
    have es : HT.sIx xs.length 0 (some (-1)) = ds.length - 1 := by
      show (if (-1 : Int) < 0 then ((-1 : Int) + (xs.length : Int)).toNat else min (-1 : Int).toNat xs.length) = _
      rw [if_pos (by decide)]; omega
    refine ⟨-1, dInt r, t, xs, e1, ex_t hid_le e2', fun h0 => ?_, fun _ c hc => ?_⟩
    · rw [es] at h0
      rw [h0.1, List.drop_zero] at q
      exact q _ H3 (y.trans z) (.tup e2' e3')
    · have up := hid_ex (M := M) (Ex.new (o := .tup (L2.cutV xs (some (-1)) none)) hc)
      refine q _ _ ((y.trans z).trans (Ex.new hc)) (.tup (SqT.of ((al.ex ((x.trans y).trans z)).newEx hc)) ?_)
      have e : L2.cutV xs (some (-1)) none = xs.drop (ds.length - 1) := by
        unfold L2.cutV
        rw [HT.sIx_none, es, List.take_of_length_le]
        rw [List.length_drop]; omega
      rw [e] at up ⊢
      exact dpDrop _ (e3'.ex up))
/-- is not, of bools -/
theorem jt_isnB {k l : Bool} (ha : Jd X M a σ H (.bool k)) (hb : Jd X M b σ H (.bool l)) : Jt X M (.Compare a [.IsNot] [b] pos) σ H (!decide (k = l)) := fun al H1 x Q q =>
  leT (pt_cmpR op_isnot_bl pe_W pe_W (nm b rfl rfl)) (ha al H1 x _ fun v H2 y p => hb al H2 (x.trans y) _ fun w H3 z r => ⟨k, l, dBl p, dBl r, by
    have e : (decide (k = l)) = decide (k = l) := rfl
    exact ⟨_, rfl, q H3 (y.trans z)⟩⟩)
/-- xs.append(e), e made with effects -/
theorem sy_appE {xs : List Sv} {m : Nat} (S : Sy X.K B M0 ρ μ σ H) (ho : Jv X o σ H (.ref ad)) (hi : μ[m]? = some (ad, .lst xs))
    (h : ∀ H1, Sy X.K B M0 ρ μ σ H1 → tW X e σ H1 fun v H2 => ∃ (B2 : Hp) (M2 : List Addr) (ρ2 : Ro) (μ2 : Mu) (m2 : Nat) (xs2 : List Sv) (s : Sv), Sy X.K B2 M2 ρ2 μ2 σ H2 ∧ s.holds X.K (hid (adr M2 μ2) H2) v ∧ μ2[m2]? = some (ad, .lst xs2) ∧ xs2.length ≤ 90000 ∧ ∀ H3, Sy X.K B2 M2 ρ2 (μ2.set m2 (ad, .lst (xs2 ++ [s]))) σ H3 → tB X rest D' σ H3)
    (hsw : swapsWith (.Call (.Attribute o "append" apos) [e] [] pos) none pos'.line X.env = pure false := by rfl)
    (hbase : attributeBase o "append" X.env (eval o X.env) = eval o X.env := by rfl)
    (hfew : ((backTo pos (starEach [e] X.env)).all (fun x => !x.1) && (backToKw pos (keywordEach [] X.env)).all (fun x => x.1.isSome)
      && decide (([e] : List Expr).length + ([] : List Keyword).length + (if ([] : List Keyword).isEmpty then 0 else 1) < 30)) = true := by rfl)
    (hline : (apos.endLine == pos.line) = true := by rfl) (hs : starEach [e] X.env = (false, eval e X.env) :: starEach [] X.env := by rfl) (hplain : (backTo pos (starEach [] X.env)).any (·.1) = false := by rfl) : tB X (.Expr (.Call (.Attribute o "append" apos) [e] [] pos) pos' :: rest) D' σ H :=
  tB_exprX (leW (pe_bm PySem.F.plainAttrs_list PySem.F.slot_list_append PySem.F.type_list_append mt_append pe_W (pa_cons pe_W pa_nil hs) hbase hfew hline hs hplain) (S.evV ho fun H1 S1 x1 => by
    obtain ⟨vs, h1, h2⟩ := S1.own hi
    refine ⟨.inl ⟨rfl, _, .inl (.inl h1)⟩, tW_mono (h H1 S1) ?_⟩
    rintro v H2 ⟨B2, M2, ρ2, μ2, m2, xs2, s, S2, hv, hi2, hl, k⟩
    obtain ⟨vs2, q1, q2⟩ := S2.own hi2
    have hl2 := paired_len q2
    exact ⟨ad, vs2, v, rfl, rfl, q1, sz_lt (by omega), k _ (S2.upd _ hi2 ⟨_, upd_same, paired_app q2 (.cons hv .nil)⟩)⟩)) hsw
/-- xs[i] += e -/
theorem pget_list : PGet X fun o i H Q => ∃ (p : Addr) (xs : List V) (k : Nat) (v : V), o = .ref p ∧ i = .int (k : Int) ∧ SqL X.K H p xs ∧ xs[k]? = some v ∧ Q v H := by
  intro pins s σ H o i ov iv Q I r1 r2 h
  obtain ⟨p, xs, k, v, rfl, rfl, hq, hv, q⟩ := h
  cases r1
  obtain ⟨t, rfl⟩ := r2
  obtain ⟨its, r, pl, hz⟩ := I.list hq
  obtain ⟨w, ew, rw'⟩ := r.get hv
  have hl := r.length
  have hn := line63
  have hk := (List.getElem?_eq_some_iff.mp hv).1
  exact wpAny_getItem_list pl.isList (by omega) (by omega) (x := w) (by simpa using ew) ⟨v, H, I, rw', q⟩
theorem sy_augIx {xs : List Sv} {m k : Nat} {x y : Int} {tpos : Pos} (S : Sy X.K B M0 ρ μ σ H) (ho : Jv X o σ H (.ref ad)) (hx : Jd X (adr M0 μ) b σ H (.int i)) (hv : Jd X (adr M0 μ) e σ H (.int y)) (hi : μ[m]? = some (ad, .lst xs)) (hk : i = (k : Int)) (hg : xs[k]? = some (.dat (.int x)))
    (kk : ∀ H', Sy X.K B M0 ρ (μ.set m (ad, .lst (xs.set k (.dat (.int (x + y)))))) σ H' → tB X rest D' σ H')
    (ha : ∀ ov iv new, augStore b ov iv new = (do holding [new, ov, iv] (setItem ov iv new); release [new, ov, iv] []; pure .next) := by intros; rfl) : tB X (.AugAssign (.Subscript o b tpos) .Add e pos :: rest) D' σ H :=
  tB_cons (ps_augS pe_W pe_W pget_list pe_W ip_add set_list ha) (S.evV ho fun H1 S1 x1 => S1.ev (hx.mono x1 S.all) fun w H2 S2 x2 p2 => by
    subst hk
    obtain ⟨vs, h1, h2⟩ := S2.own hi
    obtain ⟨v, h3, h4⟩ := paired_get h2 hg
    have h4 : v = .int x := dInt h4
    subst h4
    refine ⟨ad, vs, k, _, rfl, dInt p2, .inl (.inl h1), h3, S2.ev (hv.mono (x1.trans x2) S.all) fun u H3 S3 x3 p3 => ⟨x, y, rfl, dInt p3, ?_⟩⟩
    obtain ⟨vs3, g1, g2⟩ := S3.own hi
    have hl := paired_len g2
    have hkl := (List.getElem?_eq_some_iff.mp hg).1
    refine ⟨ad, vs3, (k : Int), k, rfl, dInt p2, g1, ?_, kk _ (S3.upd _ hi ⟨_, upd_same, paired_set (a := .dat (.int (x + y))) (b := .int (x + y)) (Dp.int _) g2⟩)⟩
    unfold ixN
    rw [if_pos (Int.natCast_nonneg k), if_pos (by omega)]
    rfl)
/-- for over what is made with effects -/
theorem sy_forE (Z : Mu → List D → Prop) (hI : ∀ R : It → Hp → Prop, (∀ J H2 μ ds, Z μ ds → Sy X.K B M0 ρ μ σ H2 → Yl X.K (hid (adr M0 μ) H2) J ds → R J H2) → tI X tg iter σ H R) (f : D → Ro → Ro) (hg : ∀ μ ds d ρ', Z μ ds → d ∈ ds → Jg X tg js d ρ' (f d ρ')) (I : Mu → List D → Nat → Ro → Mu → Prop) (h0 : ∀ μ ds, Z μ ds → I μ ds 0 ρ μ)
    (hs : ∀ μ ds i d ρ' μ' σ' H' B', Z μ ds → ds[i]? = some d → I μ ds i ρ' μ' → Ex B B' → Sy X.K B' M0 (f d ρ') μ' σ' H' →
      tB X body ⟨fun σ2 H2 => ∃ ρ2 μ2, I μ ds (i + 1) ρ2 μ2 ∧ Sy X.K B' M0 ρ2 μ2 σ2 H2, D'.rt, tB X rest D', fun σ2 H2 => ∃ ρ2 μ2, I μ ds (i + 1) ρ2 μ2 ∧ Sy X.K B' M0 ρ2 μ2 σ2 H2⟩ σ' H')
    (hd : ∀ μ ds ρ' μ' σ' H', Z μ ds → I μ ds ds.length ρ' μ' → Sy X.K B M0 ρ' μ' σ' H' → tB X rest D' σ' H')
    (hp : PassesOwn (model X.prog X.w) X.A X.env X.xe) (hc : X.calm = true) (hfs : ∀ x, foldedSetIterable iter X.env x = pure x := by intro _; rfl) : tB X (.For tg iter body [] pos :: rest) D' σ H :=
  tB_cons (ps_for hp hc pi_I pg_G pss_B hfs) (hI _ fun J H2 μ ds z S2 yl => by
    obtain ⟨G, Y, w, hG, hY⟩ := yl
    have low : hid M0 (grd μ H2) = hid (adr M0 μ) H2 := grd_low
    refine for_it w (fun i σ' H' => ∃ ρ' μ', I μ ds i ρ' μ' ∧ Sy X.K (grd μ H2) M0 ρ' μ' σ' H') ⟨ρ, μ, h0 μ ds z, S2.grd⟩ (fun i σ' H' hi ⟨ρ', μ', _, S'⟩ => hG H' ?_) (fun i x σ' H' H3 hi ⟨ρ', μ', hI, S'⟩ y => ?_) fun σ' H' ⟨ρ', μ', hI, S'⟩ => hd μ ds ρ' μ' σ' H' z hI (S'.base S2.grdB)
    · rw [← low]; exact S'.low.trans hid_le
    · have g0 : Ex (hid (adr M0 μ) H2) (hid (adr M0 μ') H') := by rw [← low]; exact S'.low
      obtain ⟨x3, dx⟩ := hY i H' x H3 hi (g0.trans hid_le) y
      have hdi : ds[i]? = some ds[i] := List.getElem?_eq_getElem hi
      have p := dx (adr M0 μ') S'.all g0 ds[i] hdi
      have S3 := S'.ex x3
      exact hg μ ds ds[i] ρ' z (List.getElem_mem hi) _ _ _ _ _ _ S3 p _ fun σ4 S4 _ _ => hs μ ds i ds[i] ρ' μ' σ4 H3 (grd μ H2) z hdi hI S2.grdB S4)
/-- what is one's own list, walked while nothing of it changes: its data -/
theorem own_yl {xs : List D} {m : Nat} {tg : Expr} (S : Sy X.K B M0 ρ μ σ H) (hi : μ[m]? = some (ad, .lst (xs.map .dat))) : ∃ vs, H ad = some (.lst vs) ∧ DpAll X.K (hid (adr M0 (μ.eraseIdx m)) H) vs xs := by
  obtain ⟨vs, h1, h2⟩ := S.own hi
  exact ⟨vs, h1, dats_all (hid_sub erase_sub) h2⟩
end
end J

set_option maxHeartbeats 4000000
/-! J22: one's own list is looked at for a while and is one's own again afterwards. -/
namespace J
open PySem PySem.Spec PyProof.Rows L2 Evl RZ
/-- at a, in the ground B0, stands a list of xs; it was not in B -/
def Fz (K : PySem.W.Frag) (B0 B : Hp) (M0 : List Addr) (a : Addr) (xs : List D) : Prop := ∃ vs, B0 a = some (.lst vs) ∧ DpAll K (hid (a :: M0) B0) vs xs ∧ a ∉ M0 ∧ B a = none ∧ Ex B B0
/-- no list stands in what a slot, an object holds -/
def noS : Sv → Bool
  | .dat d => noL d
  | _ => true
def noO : Option Sv → Bool
  | some s => noS s
  | none => true
def noMo : Mo → Bool
  | .lst xs => xs.all noS
  | .dct kvs => kvs.all fun p => noS p.2
  | .ins _ _ fs => fs.all fun p => noS p.2
  | .tab _ => true
section
variable {K : PySem.W.Frag} {B B' B0 H : Hp} {M0 : List Addr} {ρ : Ro} {μ : Mu} {σ : L2.St} {a : Addr} {xs : List D}
theorem Sy.fz (S : Sy K B M0 ρ ((a, .lst (xs.map .dat)) :: μ) σ H) : Fz K (J.grd μ H) B M0 a xs ∧ Sy K (J.grd μ H) M0 ρ μ σ H := by
  have S1 := S.drop1
  obtain ⟨vs, h1, h2⟩ := S.own (i := 0) rfl
  have na : a ∉ μ.map (·.1) := (List.nodup_cons.mp S.dj.1).1
  have nm : a ∉ M0 := S.dj.2 _ List.mem_cons_self
  refine ⟨⟨vs, ?_, ?_, nm, S.nb _ List.mem_cons_self, S1.grdB⟩, S1.grd⟩
  · show hid (μ.map (·.1)) H a = _
    rw [hid_out na]; exact h1
  · have e : hid (a :: M0) (J.grd μ H) = hid (adr M0 ((a, .lst (xs.map .dat)) :: μ)) H := by
      unfold J.grd
      rw [hid_app]
      funext b
      have : b ∈ μ.map (·.1) ++ a :: M0 ↔ b ∈ adr M0 ((a, Mo.lst (xs.map .dat)) :: μ) := by
        unfold adr
        simp only [List.map_cons, List.cons_append, List.mem_append, List.mem_cons]
        exact ⟨fun h => by rcases h with h | h | h <;> simp [h], fun h => by rcases h with h | h | h <;> simp [h]⟩
      unfold hid
      by_cases hb : b ∈ adr M0 ((a, Mo.lst (xs.map .dat)) :: μ)
      · rw [if_pos (this.mpr hb), if_pos hb]
      · rw [if_neg fun z => hb (this.mp z), if_neg hb]
    rw [e]
    exact dats_all (Ex.refl _) h2
theorem Fz.jd {X : Cx} {e : Expr} (F : Fz X.K B0 B M0 a xs) (hB : Ex B0 B') (S : Sy X.K B' M0 ρ μ σ H) (he : Jv X e σ H (.ref a)) : Jd X (adr M0 μ) e σ H (.list xs) := fun _ H1 x Q q => by
  obtain ⟨vs, h1, h2, h3, _, _⟩ := F
  refine he H1 x Q fun H2 y => q _ H2 y ?_
  have low := (hid_ex hB).trans (S.ex (x.trans y)).low
  exact .lst (SqL.of (low _ _ (by rw [hid_out h3]; exact h1))) (h2.ex ((hid_sub fun b hb => List.mem_cons_of_mem _ hb).trans low))
theorem Fz.le (F : Fz K B0 B M0 a xs) : Ex B B0 := let ⟨_, _, _, _, _, h⟩ := F; h
theorem sv_hid {M M' : List Addr} {vs : List V} {s : Sv} {v : V} (ha : H a = some (.lst vs)) (hM : ∀ b ∈ M, b = a ∨ b ∈ M') (n : noS s = true) (h : s.holds K (hid M' H) v) : s.holds K (hid M H) v := by
  cases s with
  | dat d => exact dp_hid ha hM d v n h
  | val w => exact h
  | exc cls =>
    obtain ⟨b, h1, h2⟩ := h
    refine ⟨b, h1, ?_⟩
    by_cases hb : b ∈ M'
    · rw [hid_in hb] at h2; cases h2
    · rw [hid_out hb] at h2
      rw [hid_out fun z => ?_]
      · exact h2
      · rcases hM b z with z | z
        · rw [z, ha] at h2; cases h2
        · exact hb z
theorem paired_hid {M M' : List Addr} {vs : List V} (ha : H a = some (.lst vs)) (hM : ∀ b ∈ M, b = a ∨ b ∈ M') : ∀ {xs : List Sv} {ws : List V}, xs.all noS = true → Paired (fun s v => Sv.holds K (hid M' H) s v) xs ws → Paired (fun s v => Sv.holds K (hid M H) s v) xs ws
  | _, _, _, .nil => .nil
  | s :: xs, _, n, .cons p q => by
    rw [List.all_cons, Bool.and_eq_true] at n
    exact .cons (sv_hid ha hM n.1 p) (paired_hid ha hM n.2 q)
theorem paired2_hid {κ : Type} {M M' : List Addr} {vs : List V} (ha : H a = some (.lst vs)) (hM : ∀ b ∈ M, b = a ∨ b ∈ M') : ∀ {xs : List (κ × Sv)} {ws : List (κ × V)}, (xs.all fun p => noS p.2) = true → Paired (fun (p : κ × Sv) (q : κ × V) => p.1 = q.1 ∧ p.2.holds K (hid M' H) q.2) xs ws → Paired (fun (p : κ × Sv) (q : κ × V) => p.1 = q.1 ∧ p.2.holds K (hid M H) q.2) xs ws
  | _, _, _, .nil => .nil
  | s :: xs, _, n, .cons p q => by
    rw [List.all_cons, Bool.and_eq_true] at n
    exact .cons ⟨p.1, sv_hid ha hM n.1 p.2⟩ (paired2_hid ha hM n.2 q)
theorem mo_hid {M M' : List Addr} {vs : List V} {b : Addr} {m : Mo} (ha : H a = some (.lst vs)) (hM : ∀ b ∈ M, b = a ∨ b ∈ M') (n : noMo m = true) (h : m.holds K (hid M' H) H b) : m.holds K (hid M H) H b := by
  cases m with
  | lst xs => obtain ⟨ws, h1, h2⟩ := h; exact ⟨ws, h1, paired_hid ha hM n h2⟩
  | dct xs => obtain ⟨ws, h1, h2⟩ := h; exact ⟨ws, h1, paired2_hid ha hM n h2⟩
  | ins C dx xs => obtain ⟨ws, h1, h2⟩ := h; exact ⟨ws, h1, paired2_hid ha hM n h2⟩
  | tab q =>
    obtain ⟨ps, h1, h2, h3⟩ := h
    refine ⟨ps, h1, h2, fun pos cv z => ?_⟩
    obtain ⟨c, c1, c2⟩ := h3 pos cv z
    refine ⟨c, c1, ?_⟩
    by_cases hb : c ∈ M'
    · rw [hid_in hb] at c2; cases c2
    · rw [hid_out hb] at c2
      rw [hid_out fun z => ?_]
      · exact c2
      · rcases hM c z with z | z
        · rw [z, ha] at c2; cases c2
        · exact hb z
/-- .. it is one's own again -/
theorem Fz.thaw (F : Fz K B0 B M0 a xs) (S : Sy K B0 M0 ρ μ σ H) (nr : ρ.all noO = true) (nm : (μ.all fun p => noMo p.2) = true) : Sy K B M0 ρ ((a, .lst (xs.map .dat)) :: μ) σ H := by
  obtain ⟨vs, h1, h2, h3, h4, h5⟩ := F
  have ha : H a = some (.lst vs) := S.bs _ _ h1
  have nin : a ∉ μ.map (·.1) := fun z => by
    obtain ⟨p, hp, e⟩ := List.mem_map.mp z
    have := S.nb p hp
    rw [e, h1] at this; cases this
  have hM : ∀ b ∈ adr M0 ((a, .lst (xs.map .dat)) :: μ), b = a ∨ b ∈ adr M0 μ := fun b hb => List.mem_cons.mp hb
  have up : Ex (hid (adr M0 ((a, .lst (xs.map .dat)) :: μ)) H) (hid (adr M0 μ) H) := hid_sub fun b hb => List.mem_cons_of_mem _ hb
  refine ⟨fun i s hi => ?_, S.ln, fun p hp => ?_, S.al, h5.trans S.bs, fun p hp => ?_, List.nodup_cons.mpr ⟨nin, S.dj.1⟩, fun p hp => ?_⟩
  · obtain ⟨v, q1, q2⟩ := S.sl i s hi
    exact ⟨v, q1, sv_hid ha hM (show noO (some s) = true from List.all_eq_true.mp nr _ (List.mem_of_getElem? hi)) q2⟩
  · rcases List.mem_cons.mp hp with rfl | hp
    · refine ⟨vs, ha, ?_⟩
      have low : Ex (hid (a :: M0) B0) (hid (adr M0 ((a, .lst (xs.map .dat)) :: μ)) H) := fun b o e => by
        by_cases hb : b ∈ a :: M0
        · rw [hid_in hb] at e; cases e
        · rw [hid_out hb] at e
          rw [hid_out fun z => ?_]
          · exact S.bs b o e
          · rcases List.mem_cons.mp (show b ∈ a :: adr M0 μ from z) with z | z
            · exact hb (by rw [z]; exact List.mem_cons_self)
            · rcases List.mem_append.mp z with z | z
              · obtain ⟨p, hp, q⟩ := List.mem_map.mp z
                rw [← q, S.nb p hp] at e; cases e
              · exact hb (List.mem_cons_of_mem _ z)
      exact paired_dat (h2.ex low)
    · exact mo_hid ha hM (List.all_eq_true.mp nm p hp) (S.ob p hp)
  · rcases List.mem_cons.mp hp with rfl | hp
    · exact h4
    · cases q : B p.1 with
      | none => rfl
      | some o => exact absurd ((h5 _ _ q).symm.trans (S.nb p hp)) (by simp)
  · rcases List.mem_cons.mp hp with rfl | hp
    · exact h3
    · exact S.dj.2 p hp
end
end J

set_option maxHeartbeats 4000000
/-! J23: values on the way: what was made already while the rest of a display, of arguments, is made with effects. -/
namespace J
open PySem PySem.Spec PyProof.Rows L2 Evl RZ
/-- the state, and values ts = vs that are at hand -/
def Sx (K : PySem.W.Frag) (B : Hp) (M0 : List Addr) (ρ : Ro) (μ : Mu) (σ : L2.St) (ts : List Sv) (vs : List V) (H : Hp) : Prop := Sy K B M0 (ρ ++ ts.map some) μ (σ ++ vs.map some) H ∧ ρ.length = σ.length
section
variable {K : PySem.W.Frag} {B H H' : Hp} {M0 : List Addr} {ρ : Ro} {μ μ' : Mu} {σ : L2.St} {ts : List Sv} {vs : List V} {s : Sv} {v : V}
theorem Sy.sx (S : Sy K B M0 ρ μ σ H) : Sx K B M0 ρ μ σ [] [] H := ⟨by simpa using S, S.ln⟩
theorem Sx.base (S : Sx K B M0 ρ μ σ ts vs H) : Sy K B M0 ρ μ σ H := S.1.reslot S.2 fun i s h => by
  have hi : i < ρ.length := (List.getElem?_eq_some_iff.mp h).1
  obtain ⟨v, h1, h2⟩ := S.1.sl i s (by rw [List.getElem?_append_left hi]; exact h)
  rw [List.getElem?_append_left (by rw [← S.2]; exact hi)] at h1
  exact ⟨v, h1, h2⟩
theorem Sx.ex (S : Sx K B M0 ρ μ σ ts vs H) (e : Ex H H') : Sx K B M0 ρ μ σ ts vs H' := ⟨S.1.ex e, S.2⟩
theorem Sx.len (S : Sx K B M0 ρ μ σ ts vs H) : ts.length = vs.length := by
  have h1 := S.1.ln
  have h2 := S.2
  simp at h1
  omega
theorem Sx.push (S : Sx K B M0 ρ μ σ ts vs H) (h : s.holds K (hid (adr M0 μ) H) v) : Sx K B M0 ρ μ σ (ts ++ [s]) (vs ++ [v]) H := by
  refine ⟨S.1.reslot (by have h1 := S.1.ln; simp at h1 ⊢; omega) fun i t e => ?_, S.2⟩
  have hl := S.1.ln
  have hl2 := S.len
  by_cases hi : i < (ρ ++ ts.map some).length
  · have e' : (ρ ++ ts.map some)[i]? = some (some t) := by
      rw [List.map_append, ← List.append_assoc, List.getElem?_append_left hi] at e; exact e
    obtain ⟨u, h1, h2⟩ := S.1.sl i t e'
    refine ⟨u, ?_, h2⟩
    rw [List.map_append, ← List.append_assoc, List.getElem?_append_left (by rw [← hl]; exact hi)]
    exact h1
  · rw [List.map_append, ← List.append_assoc, List.getElem?_append_right (by omega)] at e
    have h0 : i - (ρ ++ ts.map some).length = 0 := by
      have := (List.getElem?_eq_some_iff.mp e).1
      simp at this; simp; omega
    rw [h0] at e
    cases e
    refine ⟨v, ?_, h⟩
    rw [List.map_append, ← List.append_assoc, List.getElem?_append_right (by omega), ← hl, h0]
    rfl
theorem paired_of {F : Sv → V → Prop} : ∀ {ts : List Sv} {vs : List V}, ts.length = vs.length → (∀ (i : Nat) (s : Sv), ts[i]? = some s → ∃ v, vs[i]? = some v ∧ F s v) → Paired F ts vs
  | [], [], _, _ => .nil
  | s :: ts, v :: vs, hl, h => by
    obtain ⟨v', h1, h2⟩ := h 0 s rfl
    cases h1
    exact .cons h2 (paired_of (by simpa using hl) fun i s' e => h (i + 1) s' e)
  | [], _ :: _, hl, _ => by simp at hl
  | _ :: _, [], hl, _ => by simp at hl
/-- the values at hand are what they were -/
theorem Sx.vals (S : Sx K B M0 ρ μ σ ts vs H) : Paired (fun s v => Sv.holds K (hid (adr M0 μ) H) s v) ts vs := paired_of S.len fun i s e => by
  have hi := (List.getElem?_eq_some_iff.mp e).1
  have e' : (ρ ++ ts.map some)[ρ.length + i]? = some (some s) := by
    rw [List.getElem?_append_right (by omega), Nat.add_sub_cancel_left, List.getElem?_map, e]; rfl
  obtain ⟨v, h1, h2⟩ := S.1.sl _ _ e'
  rw [List.getElem?_append_right (by have := S.2; omega), ← S.2, Nat.add_sub_cancel_left, List.getElem?_map] at h1
  obtain ⟨u, h3, h4⟩ := Option.map_eq_some_iff.mp h1
  cases h4
  exact ⟨v, h3, h2⟩
theorem dats_of {G : Hp} : ∀ {ds : List D} {vs : List V}, Paired (fun s v => Sv.holds K G s v) (ds.map .dat) vs → DpAll K G vs ds
  | [], _, h => by cases h; exact .nil
  | d :: ds, _, h => by cases h with | cons x y => exact .cons x (dats_of y)
theorem Sx.dats {ds : List D} (S : Sx K B M0 ρ μ σ (ds.map .dat) vs H) : DpAll K (hid (adr M0 μ) H) vs ds := dats_of S.vals
theorem Sx.perm (S : Sx K B M0 ρ μ σ ts vs H) (p : μ'.Perm μ) : Sx K B M0 ρ μ' σ ts vs H := ⟨S.1.perm p, S.2⟩
theorem Sx.newN {a : Addr} (S : Sx K B M0 ρ μ σ ts vs H) (m : Mo) (x : Ex H H') (hn : H a = none) (ho : m.holds K (hid (a :: adr M0 μ) H') H' a) : Sx K B M0 ρ ((a, m) :: μ) σ ts vs H' := ⟨S.1.newN m x hn ho, S.2⟩
end
section
variable {X : Cx} {B H : Hp} {M0 : List Addr} {ρ : Ro} {μ μ1 μ2 : Mu} {σ : L2.St} {ts : List Sv} {vs : List V} {s : Sv} {e : Expr} {es : List Expr} {ds : List D} {d : D} {pos p : Pos}
theorem Sx.ev (S : Sx X.K B M0 ρ μ σ ts vs H) (h : Js X (adr M0 μ) e σ H s) {Q : VK} (k : ∀ v H', Sx X.K B M0 ρ μ σ (ts ++ [s]) (vs ++ [v]) H' → Q v H') : tW X e σ H Q :=
  h S.1.all H (Ex.refl H) Q fun v H' x p => k v H' ((S.ex x).push p)
theorem Sx.evN (S : Sx X.K B M0 ρ μ σ ts vs H) (h : Jn X (adr M0 μ) e σ H ds) {Q : VK} (k : ∀ a H', Sx X.K B M0 ρ ((a, .lst (ds.map .dat)) :: μ) σ (ts ++ [.val (.ref a)]) (vs ++ [.ref a]) H' → Q (.ref a) H') : tW X e σ H Q :=
  h S.1.all H (Ex.refl H) Q fun a vs' H2 y hn ha p => k a H2 (Sx.push (s := .val (.ref a)) (v := .ref a) (S.newN (.lst (ds.map .dat)) y hn ⟨vs', ha, paired_dat p⟩) rfl)
/-- a call whose callee changes objects -/
theorem Sx.call {k n : Nat} {x : Str} {ps : List Str} {Pre : List Sv → Mu → Prop} {R : List Sv → Mu → Sv → Mu → Prop} {ss : List Sv} {Q : VK} (S : Sx X.K B M0 ρ (μ1 ++ μ2) σ ts vs H) (F : Fd CX0 X.prog X.w X.K X.mg X.base k x ps (spM X.K n Pre R noF)) (hr : Room k X.A) (ha : Jsa X (adr M0 (μ1 ++ μ2)) (e :: es) σ H ss) (hn : ss.length = n) (hp : Pre ss μ1)
    (kk : ∀ v s μ1' H', R ss μ1 s μ1' → Sx X.K B M0 ρ (μ1' ++ μ2) σ (ts ++ [s]) (vs ++ [v]) H' → Q v H') (hg : Gl X x := by rfl) (hdb : (x == ("__debug__" : Str)) = false := by decide)
    (he : starEach (e :: es) X.env = (false, eval e X.env) :: starEach es X.env := by rfl) (hpl : (backTo pos (starEach es X.env)).any (·.1) = false := by rfl) : tW X (.Call (.Name x p) (e :: es) [] pos) σ H Q :=
  jm_callE F hr (ha S.1.all H (Ex.refl H) _ fun ws H2 x2 pv => callM (S.ex x2).1 pv hn hp (fun v s μ1' H' r S' hv => kk v s μ1' H' r (Sx.push ⟨S', S.2⟩ hv)) fun _ _ h => h.elim) hg hdb he hpl
theorem tA_nil {Q : List V → Hp → Prop} (h : Q [] H) : tA X [] σ H Q := leA pa_nil h
theorem tA_cons {Q : List V → Hp → Prop} (h : tW X e σ H fun v H1 => tA X es σ H1 fun vs H2 => Q (v :: vs) H2) (hs : starEach (e :: es) X.env = (false, eval e X.env) :: starEach es X.env := by rfl) : tA X (e :: es) σ H Q := leA (pa_cons pe_W pa_A hs) h
/-- a new list, a new tuple of what was made -/
theorem tW_lst {Q : VK} {n : Nat} (h : tA X es σ H fun ws H1 => ws.length ≤ 100000 ∧ ∀ a, H1 a = none → Q (.ref a) (upd H1 a (.lst ws))) : tW X (.List es pos) σ H Q :=
  leW (pe_lst pa_A) (tA_mono h fun ws H1 ⟨hz, q⟩ => ⟨sz_of hz, q⟩)
theorem tW_tup {Q : VK} {n : Nat} (h : tA X es σ H fun ws H1 => ws.length ≤ 100000 ∧ ∀ a, H1 a = none → Q (.ref a) (upd H1 a (.tup ws))) : tW X (.Tuple es n pos) σ H Q :=
  leW (pe_tup pa_A) (tA_mono h fun ws H1 ⟨hz, q⟩ => ⟨sz_of hz, q⟩)
/-- .. as one's own list -/
theorem Sx.lst {a : Addr} {us : List Sv} {ws : List V} (S : Sx X.K B M0 ρ μ σ (ts ++ us) (vs ++ ws) H) (hl : ts.length = vs.length) (hn : H a = none) : Sx X.K B M0 ρ ((a, .lst us) :: μ) σ ts vs (upd H a (.lst ws)) := by
  have hv := S.vals
  have key : ∀ {ts us : List Sv} {vs ws : List V} {F : Sv → V → Prop}, ts.length = vs.length → Paired F (ts ++ us) (vs ++ ws) → Paired F us ws := by
    intro ts
    induction ts with
    | nil => intro us vs ws F h p; cases vs with
      | nil => exact p
      | cons _ _ => simp at h
    | cons t ts ih => intro us vs ws F h p; cases vs with
      | nil => simp at h
      | cons v vs => cases p with | cons _ q => exact ih (by simpa using h) q
  have hp := key hl hv
  have S2 := S.newN (a := a) (.lst us) (Ex.new hn) hn ⟨ws, upd_same, by
    have e : hid (a :: adr M0 μ) (upd H a (.lst ws)) = hid (adr M0 μ) H := hid_new hn
    rw [e]; exact hp⟩
  refine ⟨S2.1.reslot (by have := S.2; simp; omega) fun i s h => ?_, S.2⟩
  have hi := (List.getElem?_eq_some_iff.mp h).1
  obtain ⟨v, h1, h2⟩ := S2.1.sl i s (by rw [List.map_append, ← List.append_assoc, List.getElem?_append_left hi]; exact h)
  rw [List.map_append, ← List.append_assoc, List.getElem?_append_left (by have := S.2; simp at hi ⊢; omega)] at h1
  exact ⟨v, h1, h2⟩
/-- list(t) as a new list -/
theorem jn_lstOf {M : List Addr} {a : Expr} (hm : X.mg "list" = none) (ha : Jd X M a σ H d) (h : d = .list ds ∨ d = .tuple ds) (hg : Gl X "list" := by rfl) (hs : starEach [a] X.env = (false, eval a X.env) :: starEach [] X.env := by rfl) : Jn X M (.Call (.Name "list" p) [a] [] pos) σ H ds := fun al H1 x Q q =>
  leW (pe_callTy call_list_of hg hm (by decide +kernel) (pa_cons pe_W pa_nil hs) (by decide) (by decide) hs) (ha al H1 x _ fun v H2 y r => by
    have h1n : ∀ l, H2 l = none → H1 l = none := fun l hl => by
      cases z : H1 l with
      | none => rfl
      | some o => rw [y _ _ z] at hl; cases hl
    rcases h with rfl | rfl
    · obtain ⟨t, xs, e1, e2, e3⟩ := dLst r
      exact ⟨t, xs, by rw [e1], .inl (ex_l hid_le e2), fun l hl => q l xs _ (y.trans (Ex.new hl)) (h1n l hl) upd_same (by rw [hid_new hl]; exact e3)⟩
    · obtain ⟨t, xs, e1, e2, e3⟩ := dTup r
      exact ⟨t, xs, by rw [e1], .inr (ex_t hid_le e2), fun l hl => q l xs _ (y.trans (Ex.new hl)) (h1n l hl) upd_same (by rw [hid_new hl]; exact e3)⟩)
end
/-! ### xs[i], xs[j] = xs[j], xs[i] -/
section
variable {X : Cx} {B H : Hp} {M0 : List Addr} {ρ : Ro} {μ : Mu} {σ : L2.St} {o b1 b2 : Expr} {pos p1 p2 p3 p4 pt pt2 : Pos} {rest : List Stmt} {D' : Ends} {xs : List Sv} {m i j : Nat} {a : Addr} {zi zj : Int} {s1 s2 : Sv} {kt k2 : Nat} {o1 o2 o3 o4 c1 c2 c3 c4 : Expr}
theorem setL_of (S : Sy X.K B M0 ρ μ σ H) {v : V} {s : Sv} (hi : μ[m]? = some (a, .lst xs)) (hv : s.holds X.K (hid (adr M0 μ) H) v) (hlt : i < xs.length) {Q : Hp → Prop} (k : ∀ H', Sy X.K B M0 ρ (μ.set m (a, .lst (xs.set i s))) σ H' → Q H') : rSetL (.ref a) (.int (i : Int)) v H Q := by
  obtain ⟨vs, h1, h2⟩ := S.own hi
  have hl := paired_len h2
  refine ⟨a, vs, (i : Int), i, rfl, rfl, h1, ?_, k _ (S.upd _ hi ⟨_, upd_same, paired_set hv h2⟩)⟩
  unfold ixN
  rw [if_pos (Int.natCast_nonneg i), if_pos (by omega)]
  rfl
theorem sy_swap (S : Sy X.K B M0 ρ μ σ H) (hc : X.calm = true) (hi : μ[m]? = some (a, .lst xs)) (ho : ∀ H', Jv X o1 σ H' (.ref a)) (ho2 : ∀ H', Jv X o2 σ H' (.ref a)) (ho3 : ∀ H', Jv X o3 σ H' (.ref a)) (ho4 : ∀ H', Jv X o4 σ H' (.ref a)) (hc1 : ∀ H', Jv X c1 σ H' (.int (i : Int))) (hc2 : ∀ H', Jv X c2 σ H' (.int (j : Int))) (hc3 : ∀ H', Jv X c3 σ H' (.int (j : Int))) (hc4 : ∀ H', Jv X c4 σ H' (.int (i : Int)))
    (h1 : xs[i]? = some s1) (h2 : xs[j]? = some s2) (k : ∀ H', Sy X.K B M0 ρ (μ.set m (a, .lst ((xs.set i s2).set j s1))) σ H' → tB X rest D' σ H') (hx3 : PlainIx c3 := by exact fun _ _ => rfl) (hx4 : PlainIx c4 := by exact fun _ _ => rfl)
    (ha : ∀ v, assign (.Subscript o1 c1 p1) X.env v = (do
      let ov ← holding [v] (eval o1 X.env)
      let iv ← holding [v, ov] (eval c1 X.env)
      standAt p1
      holding [v, ov, iv] (setItem ov iv v)
      release [v, ov, iv] []) := by intro _; rfl)
    (hb : ∀ v, assign (.Subscript o2 c2 p2) X.env v = (do
      let ov ← holding [v] (eval o2 X.env)
      let iv ← holding [v, ov] (eval c2 X.env)
      standAt p2
      holding [v, ov, iv] (setItem ov iv v)
      release [v, ov, iv] []) := by intro _; rfl)
    (hs : swapsWithSole [.Tuple [.Subscript o1 c1 p1, .Subscript o2 c2 p2] kt pt] (.Tuple [.Subscript o3 c3 p3, .Subscript o4 c4 p4] k2 pt2) pos.line X.env = pure false := by rfl) (hw : swappedStores [.Tuple [.Subscript o1 c1 p1, .Subscript o2 c2 p2] kt pt] (.Tuple [.Subscript o3 c3 p3, .Subscript o4 c4 p4] k2 pt2) X.env = pure none := by rfl)
    (hh1 : (assignEach [.Tuple [.Subscript o1 c1 p1, .Subscript o2 c2 p2] kt pt] X.env).map (·.2) = [assign (.Tuple [.Subscript o1 c1 p1, .Subscript o2 c2 p2] kt pt) X.env] := by rfl)
    (hgs : (assignEach [.Subscript o1 c1 p1, .Subscript o2 c2 p2] X.env).map (·.2) = assign (.Subscript o1 c1 p1) X.env :: (assignEach [.Subscript o2 c2 p2] X.env).map (·.2) := by rfl) (hgs2 : (assignEach [.Subscript o2 c2 p2] X.env).map (·.2) = assign (.Subscript o2 c2 p2) X.env :: (assignEach [] X.env).map (·.2) := by rfl)
    (hst : (assignEach [.Subscript o1 c1 p1, .Subscript o2 c2 p2] X.env).findIdx? (·.1) = none := by rfl) (hne : (assignEach [.Subscript o1 c1 p1, .Subscript o2 c2 p2] X.env).length = 2 := by rfl)
    (hs1 : starEach [.Subscript o3 c3 p3, .Subscript o4 c4 p4] X.env = (false, eval (.Subscript o3 c3 p3) X.env) :: starEach [.Subscript o4 c4 p4] X.env := by rfl) (hs2 : starEach [.Subscript o4 c4 p4] X.env = (false, eval (.Subscript o4 c4 p4) X.env) :: starEach [] X.env := by rfl) :
    tB X (.Assign [.Tuple [.Subscript o1 c1 p1, .Subscript o2 c2 p2] kt pt] (.Tuple [.Subscript o3 c3 p3, .Subscript o4 c4 p4] k2 pt2) pos :: rest) D' σ H := by
  have hlen1 : i < xs.length := (List.getElem?_eq_some_iff.mp h1).1
  have hlen2 : j < xs.length := (List.getElem?_eq_some_iff.mp h2).1
  refine tB_cons (ps_asg (pe_tup (pa_cons (pe_ix ix_list pe_W pe_W hx3) (pa_cons (pe_ix ix_list pe_W pe_W hx4) pa_nil hs2) hs1)) (pg_tup hc (pgs_cons (pg_sub pe_W pe_W set_list ha) (pgs_cons (pg_sub pe_W pe_W set_list hb) pgs_nil hgs2) hgs) rfl hst) hs hw hh1) ?_
  refine (S.evV (ho3 H)) fun H1 S1 x1 => S1.evV (hc3 H1) fun H2 S2 x2 => ?_
  obtain ⟨vs2, g1, g2⟩ := S2.own hi
  obtain ⟨v2, g3, g4⟩ := paired_get g2 h2
  refine ⟨a, vs2, (j : Int), v2, rfl, rfl, .inl (.inl g1), atI_nat g3, ?_⟩
  refine (S2.evV (ho4 H2)) fun H3 S3 x3 => S3.evV (hc4 H3) fun H4 S4 x4 => ?_
  obtain ⟨vs4, f1, f2⟩ := S4.own hi
  obtain ⟨v1, f3, f4⟩ := paired_get f2 h1
  refine ⟨a, vs4, (i : Int), v1, rfl, rfl, .inl (.inl f1), atI_nat f3, ?_⟩
  refine ⟨sz_of (by simp), fun q hq => ?_⟩
  have e24 := x3.trans x4
  have S5 := (S4.sx.push f4).push (Sv.holds.ex g4 (hid_ex e24))
  have S6 := S5.ex (Ex.new (o := .tup [v2, v1]) hq)
  refine ⟨q, [v2, v1], rfl, SqT.of upd_same, by rw [hne]; rfl, ?_⟩
  refine ⟨v2, [v1], rfl, ?_⟩
  refine S6.base.evV (ho _) fun H7 S7 x7 => S7.evV (hc1 _) fun H8 S8 x8 => ?_
  have S8x := (S6.ex x7).ex x8
  have p2 : s2.holds X.K (hid (adr M0 μ) H8) v2 := by
    have := S8x.vals
    cases this with | cons _ t => cases t with | cons y _ => exact y
  have p1' : s1.holds X.K (hid (adr M0 μ) H8) v1 := by
    have := S8x.vals
    cases this with | cons y _ => exact y
  -- the first store; the other value is carried
  obtain ⟨vs8, u1, u2⟩ := S8.own hi
  have hl8 := paired_len u2
  have So := S8x.1.upd (o := .lst (vs8.set i v2)) (.lst (xs.set i s2)) hi ⟨_, upd_same, paired_set p2 u2⟩
  have Sx9 : Sx X.K B M0 ρ (μ.set m (a, .lst (xs.set i s2))) σ [s1, s2] [v1, v2] (upd H8 a (.lst (vs8.set i v2))) := ⟨So, S8x.2⟩
  refine ⟨a, vs8, (i : Int), i, rfl, rfl, u1, ?_, ?_⟩
  · unfold ixN
    rw [if_pos (Int.natCast_nonneg i), if_pos (by omega)]
    rfl
  refine ⟨v1, [], rfl, ?_⟩
  refine Sx9.base.evV (ho2 _) fun H10 S10 x10 => S10.evV (hc2 _) fun H11 S11 x11 => ?_
  have S11x := (Sx9.ex x10).ex x11
  have p1'' : s1.holds X.K (hid (adr M0 (μ.set m (a, .lst (xs.set i s2)))) H11) v1 := by
    have := S11x.vals
    cases this with | cons y _ => exact y
  have hm : m < μ.length := (List.getElem?_eq_some_iff.mp hi).1
  refine setL_of (xs := xs.set i s2) S11 (by rw [List.getElem?_set_self hm]) p1'' (by rw [List.length_set]; exact hlen2) fun H12 S12 => ⟨rfl, ?_⟩
  rw [List.set_set] at S12
  exact k H12 S12
end
end J

set_option maxHeartbeats 4000000
/-! J24: x, y = a, b where a name is kept in a cell. -/
namespace J
open PySem PySem.Spec PyProof.Rows L2 Evl RZ
section
variable {X : Cx} {B H : Hp} {M0 : List Addr} {ρ : Ro} {μ : Mu} {σ : L2.St} {a b : Expr} {pos : Pos} {rest : List Stmt} {D' : Ends}
theorem sy_tup2 (i j : Nat) {x y : Str} {px py pt : Pos} {kt k2 pt2} (h : tA X [a, b] σ H fun vs H' => ∃ v v2, vs = [v, v2] ∧ ∀ q, H' q = none → tB X rest D' ((σ.set i (some v)).set j (some v2)) (upd H' q (.tup [v, v2])))
    (hc : X.calm = true) (hN : X.N.Nodup) (hi : X.N[i]? = some x := by rfl) (hj : X.N[j]? = some y := by rfl)
    (hx : Loc X.env.scope x := by first | exact Or.inl rfl | exact Or.inr rfl) (hy : Loc X.env.scope y := by first | exact Or.inl rfl | exact Or.inr rfl)
    (hfx : X.fn x = true ∨ X.env.scope.names.lookup x = some .local := by first | exact .inl rfl | exact .inr rfl) (hfy : X.fn y = true ∨ X.env.scope.names.lookup y = some .local := by first | exact .inl rfl | exact .inr rfl)
    (hs : swapsWithSole [.Tuple [.Name x px, .Name y py] kt pt] (.Tuple [a, b] k2 pt2) pos.line X.env = pure false := by rfl) (hw : swappedStores [.Tuple [.Name x px, .Name y py] kt pt] (.Tuple [a, b] k2 pt2) X.env = pure none := by rfl)
    (hh1 : (assignEach [.Tuple [.Name x px, .Name y py] kt pt] X.env).map (·.2) = [assign (.Tuple [.Name x px, .Name y py] kt pt) X.env] := by rfl)
    (hgs : (assignEach [.Name x px, .Name y py] X.env).map (·.2) = assign (.Name x px) X.env :: (assignEach [.Name y py] X.env).map (·.2) := by rfl) (hgs2 : (assignEach [.Name y py] X.env).map (·.2) = assign (.Name y py) X.env :: (assignEach [] X.env).map (·.2) := by rfl)
    (hst : (assignEach [.Name x px, .Name y py] X.env).findIdx? (·.1) = none := by rfl) (hne : (assignEach [.Name x px, .Name y py] X.env).length = 2 := by rfl) :
    tB X (.Assign [.Tuple [.Name x px, .Name y py] kt pt] (.Tuple [a, b] k2 pt2) pos :: rest) D' σ H := by
  refine tB_cons (ps_asg (pe_tup pa_A) (pg_tup hc (pgs_cons (pg_name hN hi hx hfx) (pgs_cons (pg_name hN hj hy hfy) pgs_nil hgs2) hgs) rfl hst) hs hw hh1) (tA_mono h ?_)
  rintro ws H1 ⟨v, v2, rfl, k⟩
  exact ⟨sz_of (by simp), fun q hq => ⟨q, [v, v2], rfl, SqT.of upd_same, by rw [hne]; rfl, v, [v2], rfl, v2, [], rfl, rfl, k q hq⟩⟩
end
end J

set_option maxHeartbeats 4000000
/-! J25: more of values on the way; caught lambdas that change objects; two keywords. -/
namespace J
open PySem PySem.Spec PyProof.Rows L2 Evl RZ LamX
section
variable {K : PySem.W.Frag} {B H H' : Hp} {M0 : List Addr} {ρ : Ro} {μ μ' : Mu} {σ : L2.St} {ts us : List Sv} {vs ws : List V} {s : Sv} {v w : V} {ds es : List D} {d : D}
theorem Sx.take (S : Sx K B M0 ρ μ σ (ts ++ us) (vs ++ ws) H) (hl : ts.length = vs.length) : Sx K B M0 ρ μ σ ts vs H := by
  refine ⟨S.1.reslot (by have := S.2; simp; omega) fun i s h => ?_, S.2⟩
  have hi := (List.getElem?_eq_some_iff.mp h).1
  obtain ⟨v, h1, h2⟩ := S.1.sl i s (by rw [List.map_append, ← List.append_assoc, List.getElem?_append_left hi]; exact h)
  rw [List.map_append, ← List.append_assoc, List.getElem?_append_left (by have := S.2; simp at hi ⊢; omega)] at h1
  exact ⟨v, h1, h2⟩
theorem paired_right {F : Sv → V → Prop} : ∀ {ts us : List Sv} {vs ws : List V}, ts.length = vs.length → Paired F (ts ++ us) (vs ++ ws) → Paired F us ws
  | [], _, [], _, _, p => p
  | [], _, _ :: _, _, h, _ => by simp at h
  | _ :: _, _, [], _, h, _ => by simp at h
  | _ :: ts, us, _ :: vs, ws, h, p => by cases p with | cons _ q => exact paired_right (by simpa using h) q
theorem Sx.right (S : Sx K B M0 ρ μ σ (ts ++ us) (vs ++ ws) H) (hl : ts.length = vs.length) : Paired (fun s v => Sv.holds K (hid (adr M0 μ) H) s v) us ws := paired_right hl S.vals
/-- a computation of any kind lies between -/
theorem Sx.across (S : Sx K B M0 ρ μ σ ts vs H) : Sy K (J.grd μ H) M0 ρ μ σ H ∧ ∀ {ρ' : Ro} {σ' : L2.St} {μ' : Mu} {H' : Hp}, Sy K (J.grd μ H) M0 ρ' μ' σ' H' → Sx K B M0 ρ' μ' σ' ts vs H' := by
  refine ⟨S.base.grd, fun {ρ' σ' μ' H'} S' => ?_⟩
  have low : Ex (hid (adr M0 μ) H) (hid (adr M0 μ') H') := by
    have := S'.low
    rw [grd_low] at this
    exact this
  have hv := S.vals
  have Sb := S'.base S.base.grdB
  have key : ∀ {ts : List Sv} {vs : List V}, Paired (fun s v => Sv.holds K (hid (adr M0 μ) H) s v) ts vs → ∀ {ts0 : List Sv} {vs0 : List V}, Sx K B M0 ρ' μ' σ' ts0 vs0 H' → Sx K B M0 ρ' μ' σ' (ts0 ++ ts) (vs0 ++ vs) H' := by
    intro ts vs h
    induction h with
    | nil => intro ts0 vs0 S0; simpa using S0
    | cons a t ih =>
      intro ts0 vs0 S0
      have := ih (S0.push (Sv.holds.ex a low))
      simpa using this
  have := key hv Sb.sx
  simpa using this
/-- a new tuple of the last ones -/
theorem Sx.mkTup {a : Addr} (S : Sx K B M0 ρ μ σ (ts ++ us) (vs ++ ws) H) (hl : ts.length = vs.length) (hu : us = ds.map .dat) (hn : H a = none) : Sx K B M0 ρ μ σ (ts ++ [.dat (.tuple ds)]) (vs ++ [.ref a]) (upd H a (.tup ws)) := by
  have hr := S.right hl
  subst hu
  have S1 := (S.take hl).ex (Ex.new (o := .tup ws) hn)
  refine S1.push (.tup (SqT.of (S.1.all.newEx hn)) ((dats_of hr).ex (hid_ex (Ex.new hn))))
/-- t + u of the last two -/
theorem Sx.cat (S : Sx K B M0 ρ μ σ (ts ++ [.dat (.tuple ds), .dat (.tuple es)]) (vs ++ [v, w]) H) (hl : ts.length = vs.length) (hz : ds.length + es.length ≤ 90000) {Q : VK} (k : ∀ u H', Sx K B M0 ρ μ σ (ts ++ [.dat (.tuple (ds ++ es))]) (vs ++ [u]) H' → Q u H') : rCatA K v w H Q := by
  have hr := S.right hl
  cases hr with | cons p hr => cases hr with | cons r _ =>
  have p : Dp K _ v (.tuple ds) := p
  have r : Dp K _ w (.tuple es) := r
  obtain ⟨t, xs, e1, e2, e3⟩ := dTup p
  obtain ⟨u, ys, f1, f2, f3⟩ := dTup r
  refine ⟨t, u, xs, ys, e1, f1, ex_t hid_le e2, ex_t hid_le f2, sz_of (by rw [e3.len, f3.len]; omega), fun h0 => ?_, fun _ h0 => ?_, fun _ _ c hc => ?_⟩
  · subst h0
    cases e3
    exact k _ _ ((S.take hl).push (by rw [← f1]; exact r))
  · subst h0
    cases f3
    refine k _ _ ((S.take hl).push ?_)
    rw [List.append_nil]
    exact .tup e2 e3
  · have up := hid_ex (M := adr M0 μ) (Ex.new (o := .tup (xs ++ ys)) hc)
    exact k _ _ (((S.take hl).ex (Ex.new hc)).push (.tup (SqT.of (S.1.all.newEx hc)) ((e3.ex up).append (f3.ex up))))
end
section
variable {X : Cx} {B H : Hp} {M M0 : List Addr} {ρ : Ro} {μ : Mu} {σ : L2.St} {a b c : Expr} {pos p kp1 kp2 : Pos} {d d' d1 d2 : D} {k1 k2 : Bool}
/-- and of three, as a value -/
theorem jd_and3 (ha : Jd X M a σ H (.bool k1)) (hf : k1 = false → d = .bool false) (hb : k1 = true → Jd X M b σ H (.bool k2)) (hf2 : k1 = true → k2 = false → d = .bool false) (hc : k1 = true → k2 = true → Jd X M c σ H d) : Jd X M (.BoolOp .And [a, b, c] pos) σ H d := fun al H1 x Q q =>
  leW (pe_and pe_W (pe_and pe_W (pe_one pe_W))) (ha al H1 x _ fun v H2 y p => ⟨k1, dBl p, by
    cases k1 with
    | true =>
      rw [if_pos rfl]
      exact hb rfl al H2 (x.trans y) _ fun w H3 z r => ⟨k2, dBl r, by
        cases k2 with
        | true => rw [if_pos rfl]; exact hc rfl rfl al H3 ((x.trans y).trans z) _ fun u H4 z2 => q u H4 ((y.trans z).trans z2)
        | false => rw [if_neg Bool.false_ne_true]; rw [hf2 rfl rfl] at q; exact q _ H3 (y.trans z) (.bl _)⟩
    | false => rw [if_neg Bool.false_ne_true]; rw [hf rfl] at q; exact q _ H2 y (.bl _)⟩)
end
section
variable {X : Cx}
/-- .. the lambda's body may change objects: what comes of them is told with the class -/
theorem jm_caughtM {k : Nat} {x a e n f : Str} {CS g c P : Addr} {st : Stmt} {fd : FuncData} {params : Arguments} {body : Expr} {scope : Scope} {p lpos pos : Pos} {j : Nat} {p0 p1 p2 p3 p4 p5 p6 p7 p8 p9 p10 p11 p12 p13 : Pos} {ρ : Ro} {μ : Mu} {σ : L2.St} {H : Hp} {Q : VK}
    (S : Sy X.K (fun _ => none) [] ρ ((P, .tab (X.env.qual ++ "<lambda>")) :: μ) σ H) (hmu : ∀ p ∈ μ, noTab p.2)
    (F : FunD X.K x x (defArgs st) [.Assign [.Name f p0] (.Constant .none j p1) p2, .Try [.Expr (.Call (.Name a p3) [] [] p4) p5] [.ExceptHandler (some (.Name e p6)) (some n) [.Assign [.Name f p7] (.Name n p8) p9] p10] [] [] p11, .Return (some (.Name f p12)) p13] (defScope st) [] [] g fd) (hm : X.mg x = some (.ref g))
    (hbi : ∀ (kV doc pm : Value) (an : Option Addr) (cdv ct : Value) (us : List Value), us.length = [a].length → bindArgs (PySem.W.fnOf x x (defArgs st) [.Assign [.Name f p0] (.Constant .none j p1) p2, .Try [.Expr (.Call (.Name a p3) [] [] p4) p5] [.ExceptHandler (some (.Name e p6)) (some n) [.Assign [.Name f p7] (.Name n p8) p9] p10] [] [] p11, .Return (some (.Name f p12)) p13] (defScope st) .none kV doc pm an cdv ct) ⟨us, []⟩ = pure ([a].zip us))
    (Sg : FnScope [a, f, n] [a] (defScope st)) (hva : Vis (defScope st) a) (hge : (defScope st).names.lookup e = some .globalImplicit) (hme : X.mg e = some (.ref CS)) (hde : (e == ("__debug__" : Str)) = false)
    (hlf : (defScope st).names.lookup f = some .local) (hln : (defScope st).names.lookup n = some .local) (hdf : (f == ("__debug__" : Str)) = false) (hcf : (f == ("__classdict__" : Str)) = false) (hdn : (n == ("__debug__" : Str)) = false) (hcn : (n == ("__classdict__" : Str)) = false)
    (TB : TabB X.base X.mg c P) (hcode : X.env.code = .ref c) (hr : Room (k + 2) X.A) (L : LamS X.env.scope scope)
    (Pc : Value → Mu → Prop) (hbody : ∀ (A : Around) (outer : List Env) (s : Shared) (H0 : Hp) (f' c' : Addr) (H1 : Hp) (E : XK), Room k (A.deeper (lamEnv X scope s.heap.objs.size f' c')) → Sy X.K (fun _ => none) [] ρ ((P, .tab (X.env.qual ++ "<lambda>")) :: μ) σ H1 →
      (∀ cls H' μ', Pc cls μ' → PySem.W.exmOne X.K cls (.ref CS) = some true → Sy X.K (fun _ => none) [] ρ ((P, .tab (X.env.qual ++ "<lambda>")) :: μ') σ H' → E cls none H') → tW (lamCx X A outer s H0 E scope f' c') body σ H1 (fun _ H' => Q .non H'))
    (hQ : ∀ cls v H' μ', Pc cls μ' → PySem.W.exmOne X.K cls (.ref CS) = some true → Sy X.K (fun _ => none) [] ρ ((P, .tab (X.env.qual ++ "<lambda>")) :: μ') σ H' → (Sv.exc cls).holds X.K (hid (adr [] ((P, .tab (X.env.qual ++ "<lambda>")) :: μ')) H') v → Q v H')
    (hg : Gl X x := by rfl) (hdef : defaultsOf params X.env = ([], []) := by rfl) (hbind : ∀ (q : Str) (cl : List (Str × Addr)) (pm cv ctv : Value), bindArgs (PySem.W.kla_fn "<lambda>" q params body scope cl pm cv ctv) ⟨[], []⟩ = pure [] := by intros; rfl)
    (hdb : (x == ("__debug__" : Str)) = false := by decide) (hd : (a == ("__debug__" : Str)) = false := by decide) (hcd : (a == ("__classdict__" : Str)) = false := by decide) : tW X (.Call (.Name x p) [.Lambda params body scope lpos] [] pos) σ H Q := by
  have hb := F.bindsN (ps := [a]) hbi
  obtain ⟨oc, od, dV, kV, doc, pm, an, cdv, ct, osl, efd, lk, hcg, _, _⟩ := F.ex
  subst efd
  refine leW (pe_lamcall (T := [(P, X.env.qual ++ "<lambda>")]) (TT := TCaught X.K CS) (t := tLm X scope body k) hg hm F.kp lk hcg hb Sg rfl hva
    (caught_gives Sg.nd hge hme hde hlf hln hdf hcf hdn hcn) TB hcode List.mem_cons_self (fun p hp _ => by rw [List.mem_singleton.mp hp]) hr L hdef hbind (fun A outer s H0 E f' c' hr' => ⟨fun pins s' σ' H' Q' I h => h A outer s H0 f' c' hr' pins s' I⟩) hdb hd hcd) ⟨S.tabs, fun H1 eN T1 => ?_⟩
  have S1 := S.tabbed hmu eN T1
  intro A outer s H0 f' c' hr'
  refine tW_mono (hbody A outer s H0 f' c' H1 _ hr' S1 fun cls H' μ' hc he S' => ?_) fun v H' q => ⟨.non, rfl, q⟩
  refine ⟨true, he, fun _ ad ha => hQ cls (.ref ad) _ μ' hc he (S'.ex (Ex.new ha)) ⟨ad, rfl, ?_⟩, fun z => by cases z⟩
  rw [hid_out (S'.all.out ha)]
  exact upd_same
end
section
variable {X : Cx} {B H : Hp} {M M0 : List Addr} {ρ : Ro} {μ : Mu} {σ : L2.St} {e e1 e2 : Expr} {es : List Expr} {pos p kp1 kp2 : Pos} {d d1 d2 : D} {k n : Nat} {x p1 p2 : Str} {ps : List Str} {R : List D → D → Prop} {Fl : List D → Value → Prop} {f : Addr} {fd : FuncData}
/-- a call that may raise, its arguments made with effects -/
theorem jx_callE {E : XK} {Q : VK} (F : Fd (CX X.prog X.w) X.prog X.w X.K X.mg X.base k x ps (spX X.K n R Fl)) (hr : Room k X.A) (tk : Takes X (fun cls d _ H => E cls d H)) (ha : tA X (e :: es) σ H fun vs H2 => spX X.K n R Fl vs H2 Q E)
    (hg : Gl X x := by rfl) (hdb : (x == ("__debug__" : Str)) = false := by decide) (he : starEach (e :: es) X.env = (false, eval e X.env) :: starEach es X.env := by rfl) (hpl : (backTo pos (starEach es X.env)).any (·.1) = false := by rfl) : tW X (.Call (.Name x p) (e :: es) [] pos) σ H Q := by
  obtain ⟨f, fd, hm, hk, hb, ok⟩ := F.ex
  refine leW (pe_call (E := E) ok hr hg hm hk hb .nil (passes_call tk fun _ _ _ _ h => h) pa_A hdb he hpl) (tA_mono ha fun vs H2 h => ?_)
  show spX X.K n R Fl (vs ++ []) H2 Q E
  rw [List.append_nil]
  exact h
theorem paired_rev {α β : Type} {F : α → β → Prop} : ∀ {xs : List α} {vs : List β}, Paired F xs vs → Paired F xs.reverse vs.reverse
  | _, _, .nil => .nil
  | _, _, .cons a t => by rw [List.reverse_cons, List.reverse_cons]; exact paired_app (paired_rev t) (.cons a .nil)
/-- two parameters told by keywords, the second one first -/
theorem kbn_rev {K : PySem.W.Frag} {x q : Str} {params : Arguments} {body : List Stmt} {scope : Scope} {f : Addr} {fd : FuncData} {ps ks : List Str} (F : FunD K x q params body scope [] [] f fd)
    (h : ∀ (kV doc pm : Value) (an : Option Addr) (cdv ct : Value) (ws : List Value), ws.length = ks.length → bindArgs (PySem.W.fnOf x q params body scope .none kV doc pm an cdv ct) ⟨[], ks.zip ws⟩ = pure (ps.zip ws.reverse)) : KBn K fd ps 0 ks (fun us ws => us ++ ws.reverse) (fun vs zs => vs ++ zs.reverse) := by
  obtain ⟨oc, od, dV, kV, doc, pm, an, cdv, ct, osl, rfl, lk, hcd, hD, hK⟩ := F.ex
  rcases hD with ⟨_, rfl⟩ | ⟨e, _⟩
  · exact ⟨fun s us ws X l1 l2 => BindsTo.of_looks fun M => PySem.W.Looks.of_pure (by
      have e : us = [] := List.length_eq_zero_iff.mp l1
      subst e
      exact h kV doc pm an cdv ct ws l2), fun r1 r2 => paired_app r1 (paired_rev r2)⟩
  · exact absurd rfl e
theorem jd_callXK2 (ok : FnOk X.prog X.w X.K X.mg X.base (CX X.prog X.w) k f fd [p1, p2] (spX X.K 2 R Fl)) (hm : X.mg x = some (.ref f)) (hk : PySem.W.keepIn X.K (.ref f) = true) (hb : KBn X.K fd [p1, p2] 0 [p2, p1] (fun us ws => us ++ ws.reverse) (fun vs zs => vs ++ zs.reverse)) (hr : Room k X.A)
    (ha : Jd X M e2 σ H d2) (ha1 : Jd X M e1 σ H d1) (hR : R [d1, d2] d) (hg : Gl X x := by rfl) (hdb : (x == ("__debug__" : Str)) = false := by decide)
    (hall : (backToKw pos (keywordEach [⟨some p2, e2, kp2⟩, ⟨some p1, e1, kp1⟩] X.env)).all (·.1.isSome) = true := by rfl) (hks : (backToKw pos (keywordEach [⟨some p2, e2, kp2⟩, ⟨some p1, e1, kp1⟩] X.env)).filterMap (·.1) = [p2, p1] := by rfl)
    (hpl : ((backTo pos (starEach [] X.env)).any (·.1) || (backToKw pos (keywordEach [⟨some p2, e2, kp2⟩, ⟨some p1, e1, kp1⟩] X.env)).any (·.1.isNone)) = false := by rfl) : Jd X M (.Call (.Name x p) [] [⟨some p2, e2, kp2⟩, ⟨some p1, e1, kp1⟩] pos) σ H d := fun al H1 y Q q =>
  leW (pe_callK0 (E := E0) ok hr hg hm hk hb passE0 (pk_cons pe_W (pk_cons pe_W pk_nil)) hall hks hdb hpl) (ha al H1 y _ fun v H2 z r => ha1 al H2 (y.trans z) _ fun v1 H3 z1 r1 => ⟨rfl, M, [d1, d2], rfl, ((al.ex y).ex z).ex z1, .cons r1 (.cons (r.ex (hid_ex z1)) .nil), .inl ⟨d, hR, fun v H4 u t => q v H4 ((z.trans z1).trans u) t⟩⟩)
end
end J

set_option maxHeartbeats 4000000
/-! J26: ratios as rational numbers. -/
namespace J
open PySem PySem.Spec PyProof.Rows L2 Evl RZ
/-- a ratio -/
abbrev dR (r : Rat) : D := .tuple [.int r.num, .int (r.den : Int)]
/-- of at most so many bits -/
def Bz (b : Nat) (r : Rat) : Prop := r.num.natAbs < 2 ^ b ∧ r.den < 2 ^ b
theorem Bz.mono {b c : Nat} {r : Rat} (h : Bz b r) (k : b ≤ c) : Bz c r := ⟨Nat.lt_of_lt_of_le h.1 (Nat.pow_le_pow_right (by decide) k), Nat.lt_of_lt_of_le h.2 (Nat.pow_le_pow_right (by decide) k)⟩
theorem bz_mkRat {n : Int} {d b : Nat} (h0 : 0 < b) (h1 : n.natAbs < 2 ^ b) (h2 : d < 2 ^ b) : Bz b (mkRat n d) := by
  unfold Bz
  rw [Rat.num_mkRat, Rat.den_mkRat]
  have h1b : 1 < 2 ^ b := Nat.one_lt_two_pow (by omega)
  by_cases hd : d = 0
  · rw [if_pos hd, if_pos hd]
    exact ⟨by simp; omega, h1b⟩
  · rw [if_neg hd, if_neg hd]
    exact ⟨Nat.lt_of_le_of_lt (Int.natAbs_ediv_le_natAbs _ _) h1, Nat.lt_of_le_of_lt (Nat.div_le_self _ _) h2⟩
theorem bz_add {a b : Rat} {m n : Nat} (ha : Bz m a) (hb : Bz n b) : Bz (m + n + 1) (a + b) := by
  rw [Rat.add_def']
  have x1 : (a.num * b.den).natAbs < 2 ^ (m + n) := wide_lt ha.1 (by rw [Int.natAbs_natCast]; exact hb.2)
  have x2 : (b.num * a.den).natAbs < 2 ^ (m + n) := by rw [Int.mul_comm]; exact wide_lt (by rw [Int.natAbs_natCast]; exact ha.2) hb.1
  have x3 : a.den * b.den < 2 ^ (m + n) := by rw [Nat.pow_add]; exact Nat.mul_lt_mul'' ha.2 hb.2
  have e : 2 ^ (m + n + 1) = 2 ^ (m + n) + 2 ^ (m + n) := by rw [Nat.pow_succ]; omega
  exact bz_mkRat (by omega) (by omega) (by omega)
theorem bz_neg {a : Rat} {m : Nat} (ha : Bz m a) : Bz m (-a) := by
  unfold Bz
  rw [Rat.neg_num, Rat.neg_den, Int.natAbs_neg]
  exact ha
theorem bz_sub {a b : Rat} {m n : Nat} (ha : Bz m a) (hb : Bz n b) : Bz (m + n + 1) (a - b) := by
  rw [Rat.sub_eq_add_neg]
  exact bz_add ha (bz_neg hb)
theorem bz_mul {a b : Rat} {m n : Nat} (ha : Bz m a) (hb : Bz n b) : Bz (m + n + 1) (a * b) := by
  rw [Rat.mul_def']
  have x1 : (a.num * b.num).natAbs < 2 ^ (m + n) := wide_lt ha.1 hb.1
  have x3 : a.den * b.den < 2 ^ (m + n) := by rw [Nat.pow_add]; exact Nat.mul_lt_mul'' ha.2 hb.2
  have e : 2 ^ (m + n + 1) = 2 ^ (m + n) + 2 ^ (m + n) := by rw [Nat.pow_succ]; omega
  exact bz_mkRat (by omega) (by omega) (by omega)
theorem bz_inv {b : Rat} {n : Nat} (hb : Bz n b) (h0 : 0 < n) : Bz n b⁻¹ := by
  unfold Bz
  rw [Rat.num_inv, Rat.den_inv]
  have h1b : 1 < 2 ^ n := Nat.one_lt_two_pow (by omega)
  refine ⟨?_, ?_⟩
  · rw [Int.natAbs_mul, Int.natAbs_natCast]
    have hs : b.num.sign.natAbs ≤ 1 := by
      rcases Int.lt_trichotomy b.num 0 with h | h | h
      · rw [Int.sign_eq_neg_one_of_neg h]; decide
      · rw [h]; decide
      · rw [Int.sign_eq_one_of_pos h]; decide
    exact Nat.lt_of_le_of_lt (Nat.le_trans (Nat.mul_le_mul_right _ hs) (by omega)) hb.2
  · split
    · exact h1b
    · exact hb.1
theorem bz_div {a b : Rat} {m n : Nat} (ha : Bz m a) (hb : Bz n b) (h0 : 0 < n) : Bz (m + n + 1) (a / b) := by
  rw [Rat.div_def]
  exact bz_mul ha (bz_inv hb h0)
theorem bz_int {x : Int} {b : Nat} (h0 : 0 < b) (h : x.natAbs < 2 ^ b) : Bz b (x : Rat) := ⟨by rw [Rat.num_intCast]; exact h, by rw [Rat.den_intCast]; exact Nat.one_lt_two_pow (by omega)⟩
theorem bz_of {n d : Int} {b : Nat} (h : 0 < d) (h0 : 0 < b) (h1 : n.natAbs < 2 ^ b) (h2 : d.natAbs < 2 ^ b) : Bz b (Rat.divInt n d) := by
  have e : d = ((d.natAbs : Nat) : Int) := by omega
  rw [e, Rat.divInt_ofNat]
  exact bz_mkRat h0 h1 h2
/-- lowest terms -/
theorem low_div {n d : Int} (h : 0 < d) : PyData.tuple [.int (n / ((Nat.gcd n.natAbs d.natAbs : Nat) : Int)), .int (d / ((Nat.gcd n.natAbs d.natAbs : Nat) : Int))] = dR (Rat.divInt n d) := by
  unfold dR
  have e : d = ((d.natAbs : Nat) : Int) := by omega
  have hd : d.natAbs ≠ 0 := by omega
  have e2 : Rat.divInt n d = mkRat n d.natAbs := by
    have := Rat.divInt_ofNat n d.natAbs
    rw [← e] at this
    exact this
  rw [e2, Rat.num_mkRat, Rat.den_mkRat, if_neg hd, if_neg hd, Nat.gcd_comm d.natAbs]
  congr 3
  rw [Int.natCast_ediv, ← e]
theorem divInt_add {a b : Rat} : Rat.divInt (a.num * b.den + b.num * a.den) (a.den * b.den) = a + b := by
  have h1 : (a.den : Int) ≠ 0 := by have := a.den_nz; omega
  have h2 : (b.den : Int) ≠ 0 := by have := b.den_nz; omega
  rw [← Rat.divInt_add_divInt _ _ h1 h2, Rat.num_divInt_den, Rat.num_divInt_den]
theorem divInt_sub {a b : Rat} : Rat.divInt (a.num * b.den - b.num * a.den) (a.den * b.den) = a - b := by
  have h1 : (a.den : Int) ≠ 0 := by have := a.den_nz; omega
  have h2 : (b.den : Int) ≠ 0 := by have := b.den_nz; omega
  rw [← Rat.divInt_sub_divInt _ _ h1 h2, Rat.num_divInt_den, Rat.num_divInt_den]
theorem divInt_mul {a b : Rat} : Rat.divInt (a.num * b.num) (a.den * b.den) = a * b := by
  rw [← Rat.divInt_mul_divInt, Rat.num_divInt_den, Rat.num_divInt_den]
theorem divInt_div {a b : Rat} : Rat.divInt (a.num * b.den) (a.den * b.num) = a / b := by
  rw [← Rat.divInt_mul_divInt, Rat.num_divInt_den, ← Rat.inv_def, Rat.div_def]
theorem den_pos (r : Rat) : (0 : Int) < r.den := by have := r.den_nz; omega
theorem num_pos {r : Rat} : 0 < r.num ↔ 0 < r := by
  have h1 := @Rat.num_nonneg r
  have h2 := @Rat.num_eq_zero r
  constructor
  · intro h
    exact Rat.lt_of_le_of_ne (h1.mp (by omega)) fun e => by rw [← e] at h; exact absurd h (by decide)
  · intro h
    have a := h1.mpr (Rat.le_of_lt h)
    have b : r.num ≠ 0 := fun e => Rat.ne_of_lt h (h2.mp e).symm
    omega
theorem num_nonpos {r : Rat} : r.num ≤ 0 ↔ r ≤ 0 := by
  rw [← Int.not_lt, num_pos, Rat.not_lt]
theorem dec_lt {a b : Rat} : decide (a.num * b.den < b.num * a.den) = decide (a < b) := decide_eq_decide.mpr (Rat.lt_iff a b).symm
theorem dec_pos {r : Rat} : decide (0 < r.num) = decide (0 < r) := decide_eq_decide.mpr num_pos
theorem dec_nonpos {r : Rat} : decide (r.num ≤ 0) = decide (r ≤ 0) := decide_eq_decide.mpr num_nonpos
theorem dec_nonneg {r : Rat} : decide (0 ≤ r.num) = decide (0 ≤ r) := decide_eq_decide.mpr Rat.num_nonneg
theorem dR_inj {a b : Rat} (h : dR a = dR b) : a = b := by
  simp only [PyData.tuple.injEq, List.cons.injEq, PyData.int.injEq, and_true] at h
  exact Rat.ext h.1 (by omega)
theorem eqv_dR (a b : Rat) : PyData.eqv (dR a) (dR b) = decide (a = b) := by
  have e : PyData.eqv (dR a) (dR b) = (decide (a.num = b.num) && decide ((a.den : Int) = b.den)) := by
    simp only [PyData.eqv, PyData.eqvAll, Bool.and_true]
    rfl
  rw [e]
  by_cases h : a = b
  · subst h; simp
  · rw [decide_eq_false h]
    by_cases h1 : a.num = b.num
    · have : ¬ (a.den : Int) = b.den := fun z => h (Rat.ext h1 (by omega))
      rw [decide_eq_false this, Bool.and_false]
    · rw [decide_eq_false h1, Bool.false_and]
theorem lay_dR {r : Rat} : Lay 5 (dR r) := lay_tup.mpr fun x hx => by
  simp only [List.mem_cons, List.not_mem_nil, or_false] at hx
  rcases hx with rfl | rfl <;> exact lay_int
theorem noL_dR (r : Rat) : noL (dR r) = true := rfl
theorem sz_dR (r : Rat) : sz (dR r) = 3 := rfl
/-- what is a ratio -/
def isR : D → Bool
  | .tuple [.int n, .int m] => decide (0 < m) && decide (((Nat.gcd n.natAbs m.natAbs : Nat) : Int) = 1)
  | _ => false
theorem isR_dR (r : Rat) : isR (dR r) = true := by
  show (decide _ && decide _) = true
  have h := r.reduced
  rw [decide_eq_true (den_pos r), decide_eq_true]
  · rfl
  · rw [Int.natAbs_natCast]
    have : Nat.gcd r.num.natAbs r.den = 1 := h
    rw [this]; rfl
theorem isR_of {d : D} (h : isR d = true) : ∃ r : Rat, d = dR r := by
  unfold isR at h
  split at h
  · rename_i n m
    simp only [Bool.and_eq_true, decide_eq_true_eq] at h
    refine ⟨⟨n, m.natAbs, by omega, ?_⟩, ?_⟩
    · show Nat.gcd n.natAbs m.natAbs = 1
      omega
    · unfold dR
      congr 3
      show PyData.int m = PyData.int ((m.natAbs : Nat) : Int)
      congr 1
      omega
  · cases h
def isC (d : D) : Bool := isR d && (match d with
  | .tuple [.int n, .int m] => decide (0 ≤ n) && decide (n ≤ m)
  | _ => false)
theorem le_one {r : Rat} : r.num ≤ r.den ↔ r ≤ 1 := by
  rw [Rat.le_iff]
  simp
theorem isC_dR (r : Rat) : isC (dR r) = (decide (0 ≤ r) && decide (r ≤ 1)) := by
  show (isR (dR r) && (decide _ && decide _)) = _
  rw [isR_dR, Bool.true_and, dec_nonneg]
  congr 1
  exact decide_eq_decide.mpr le_one
theorem isC_of {d : D} (h : isC d = true) : ∃ r : Rat, d = dR r ∧ 0 ≤ r ∧ r ≤ 1 := by
  have h1 : isR d = true := by
    unfold isC at h
    rw [Bool.and_eq_true] at h
    exact h.1
  obtain ⟨r, rfl⟩ := isR_of h1
  rw [isC_dR, Bool.and_eq_true, decide_eq_true_eq, decide_eq_true_eq] at h
  exact ⟨r, rfl, h⟩
/-! ### sums -/
theorem rsum_append : ∀ xs ys : List Rat, (xs ++ ys).sum = xs.sum + ys.sum
  | [], ys => (Rat.zero_add ys.sum).symm
  | x :: xs, ys => by rw [List.cons_append, List.sum_cons, List.sum_cons, rsum_append xs ys, Rat.add_assoc]
theorem rsum_take {l : List Rat} {i : Nat} {x : Rat} (h : l[i]? = some x) : (l.take (i + 1)).sum = (l.take i).sum + x := by
  rw [List.take_add_one, h, rsum_append]
  show _ + (x + 0) = _
  rw [Rat.add_zero]
theorem bz_sum {l : List Rat} {b : Nat} (h : ∀ x ∈ l, Bz b x) : Bz (l.length * (b + 1) + 1) l.sum := by
  induction l with
  | nil =>
    have : 1 < 2 ^ (0 * (b + 1) + 1) := Nat.one_lt_two_pow (by omega)
    exact ⟨Nat.lt_trans (by decide) this, this⟩
  | cons x l ih =>
    rw [List.sum_cons]
    have := bz_add (h x (by simp)) (ih fun y hy => h y (by simp [hy]))
    refine this.mono ?_
    rw [List.length_cons, Nat.add_mul]
    omega
theorem bz_take {l : List Rat} {b i : Nat} (h : ∀ x ∈ l, Bz b x) : Bz (i * (b + 1) + 1) (l.take i).sum := by
  have := bz_sum (l := l.take i) (b := b) fun x hx => h x (List.mem_of_mem_take hx)
  refine this.mono ?_
  have : (l.take i).length ≤ i := List.length_take_le _ _
  have := Nat.mul_le_mul_right (b + 1) this
  omega
end J

set_option maxHeartbeats 4000000
/-! J27: comprehensions of one clause, as maps; a loop over functions; a call of a function that a variable holds. -/
namespace J
open PySem PySem.Spec PyProof.Rows L2 Evl RZ
section
variable {α β : Type}
theorem fmm (f : α → D) (l : List α) : (l.map fun a => some (f a)).filterMap id = l.map f := by
  induction l with
  | nil => rfl
  | cons a t ih => simp
theorem zipD_map (f : α → D) (g : β → D) : ∀ (xs : List α) (ys : List β), zipD (xs.map f) (ys.map g) = (xs.zip ys).map fun p => .tuple [f p.1, g p.2]
  | [], _ => rfl
  | _ :: _, [] => rfl
  | x :: xs, y :: ys => by simp only [List.map_cons, List.zip_cons_cons, zipD, zipD_map f g xs ys]
variable {X : Cx} {B H : Hp} {M0 : List Addr} {ρ : Ro} {μ : Mu} {σ : L2.St} {pos : Pos} {tg iter elt : Expr} {ifs : List Expr} {scope : Scope} {own : List (Str × Nat)} {js : List Nat} {rest body : List Stmt} {D' : Ends}
/-- [elt for tg in iter] -/
theorem sy_lcM (S : Sy X.K B M0 ρ μ σ H) {g : α → D} {xs : List α} (hw : Jw X (adr M0 μ) tg iter σ H (xs.map g)) (h : α → D) (hz : xs.length ≤ 90000) (f : D → Ro → Ro) (hjs : ∀ j ∈ js, j ∈ own.map (·.2))
    (hg : ∀ X' x, Blk X scope X' → x ∈ xs → Jg X' tg js (g x) (wip ρ (own.map (·.2))) (f (g x) (wip ρ (own.map (·.2)))))
    (he : ∀ (i : Nat) (x : α) X' B' M' σ' H', xs[i]? = some x → Blk X scope X' → Sy X'.K B' M' (f (g x) (wip ρ (own.map (·.2)))) μ σ' H' → Jd X' (adr M' μ) elt σ' H' (h x))
    (ok : BlkOk X.N X.env.scope scope own) (hc : X.calm = true) (hN : X.N.Nodup) (hs : ∀ x, foldedSetIterable iter X.env x = pure x := by intro _; rfl) :
    Jn X (adr M0 μ) (.ListComp elt [⟨tg, iter, [], 0⟩] scope pos) σ H (xs.map h) := by
  have z := sy_lcN (ifs := []) (elt := elt) (pos := pos) S hw (xs.map fun x => some (h x)) (by simp) (by simpa using hz) f hjs (fun X' d b hd => ?_) (fun i d o X' B' M' σ' H' h1 h2 b S' => ?_) (fun i d x X' B' M' σ' H' h1 h2 b S' => ?_) ok hc hN hs
  · rw [fmm] at z; exact z
  · obtain ⟨x, hx, rfl⟩ := List.mem_map.mp hd
    exact hg X' x b hx
  · rw [List.getElem?_map] at h1 h2
    obtain ⟨n, hn, rfl⟩ := Option.map_eq_some_iff.mp h1
    rw [hn] at h2
    cases h2
    exact jts_nil
  · rw [List.getElem?_map] at h1 h2
    obtain ⟨n, hn, rfl⟩ := Option.map_eq_some_iff.mp h1
    rw [hn] at h2
    cases h2
    exact he i n X' B' M' σ' H' hn b S'
/-- [elt for tg in iter if c], none of which passes -/
theorem sy_lc0 (S : Sy X.K B M0 ρ μ σ H) {g : α → D} {xs : List α} {c : Expr} (hw : Jw X (adr M0 μ) tg iter σ H (xs.map g)) (hz : xs.length ≤ 90000) (f : D → Ro → Ro) (hjs : ∀ j ∈ js, j ∈ own.map (·.2))
    (hg : ∀ X' x, Blk X scope X' → x ∈ xs → Jg X' tg js (g x) (wip ρ (own.map (·.2))) (f (g x) (wip ρ (own.map (·.2)))))
    (ht : ∀ (i : Nat) (x : α) X' B' M' σ' H', xs[i]? = some x → Blk X scope X' → Sy X'.K B' M' (f (g x) (wip ρ (own.map (·.2)))) μ σ' H' → Jt X' (adr M' μ) c σ' H' false)
    (ok : BlkOk X.N X.env.scope scope own) (hc : X.calm = true) (hN : X.N.Nodup) (hs : ∀ x, foldedSetIterable iter X.env x = pure x := by intro _; rfl) :
    Jn X (adr M0 μ) (.ListComp elt [⟨tg, iter, [c], 0⟩] scope pos) σ H [] := by
  have z := sy_lcN (ifs := [c]) (elt := elt) (pos := pos) S hw (xs.map fun _ => none) (by simp) (by simpa using hz) f hjs (fun X' d b hd => ?_) (fun i d o X' B' M' σ' H' h1 h2 b S' => ?_) (fun i d x X' B' M' σ' H' h1 h2 b S' => ?_) ok hc hN hs
  · have e : (xs.map fun _ => (none : Option D)).filterMap id = [] := by
      clear z hw ht hg hz
      induction xs with
      | nil => rfl
      | cons a t ih => simp
    rw [e] at z; exact z
  · obtain ⟨x, hx, rfl⟩ := List.mem_map.mp hd
    exact hg X' x b hx
  · rw [List.getElem?_map] at h1 h2
    obtain ⟨n, hn, rfl⟩ := Option.map_eq_some_iff.mp h1
    rw [hn] at h2
    cases h2
    exact jts_one (ht i n X' B' M' σ' H' hn b S')
  · rw [List.getElem?_map] at h1 h2
    obtain ⟨n, hn, rfl⟩ := Option.map_eq_some_iff.mp h1
    rw [hn] at h2
    cases h2
/-- values of several expressions -/
def Jva (X : Cx) (es : List Expr) (σ : L2.St) (H : Hp) (vs : List V) : Prop := ∀ H1, Ex H H1 → ∀ Q : List V → Hp → Prop, (∀ H2, Ex H1 H2 → Q vs H2) → tA X es σ H1 Q
theorem jva_nil : Jva X [] σ H [] := fun H1 _ Q q => leA pa_nil (q H1 (Ex.refl H1))
theorem jva_cons {e : Expr} {es : List Expr} {v : V} {vs : List V} (ha : Jv X e σ H v) (hr : Jva X es σ H vs) (hs : starEach (e :: es) X.env = (false, eval e X.env) :: starEach es X.env := by rfl) : Jva X (e :: es) σ H (v :: vs) := fun H1 x Q q =>
  leA (pa_cons pe_W pa_A hs) (ha H1 x _ fun H2 y => hr H2 (x.trans y) _ fun H3 z => q H3 (y.trans z))
/-- for x in [e, ..]: over values -/
theorem sy_forV {es : List Expr} {vs : List V} {x : Str} {p lpos : Pos} (j : Nat) (S : Sy X.K B M0 ρ μ σ H) (hv : Jva X es σ H vs) (I : Nat → Ro → Mu → Prop) (h0 : I 0 ρ μ)
    (hs : ∀ i v ρ' μ' σ' H' B', vs[i]? = some v → I i ρ' μ' → Ex B B' → Sy X.K B' M0 (ρ'.set j (some (.val v))) μ' σ' H' →
      tB X body ⟨fun σ2 H2 => ∃ ρ2 μ2, I (i + 1) ρ2 μ2 ∧ Sy X.K B' M0 ρ2 μ2 σ2 H2, D'.rt, tB X rest D', fun σ2 H2 => ∃ ρ2 μ2, I (i + 1) ρ2 μ2 ∧ Sy X.K B' M0 ρ2 μ2 σ2 H2⟩ σ' H')
    (hd : ∀ ρ' μ' σ' H', I vs.length ρ' μ' → Sy X.K B M0 ρ' μ' σ' H' → tB X rest D' σ' H')
    (hp : PassesOwn (model X.prog X.w) X.A X.env X.xe) (hc : X.calm = true) (hN : X.N.Nodup) (hz : vs.length ≤ 100000) (hi : X.N[j]? = some x := by rfl) (hx : Loc X.env.scope x := by first | exact Or.inl rfl | exact Or.inr rfl) (hf : X.fn x = true ∨ X.env.scope.names.lookup x = some .local := by first | exact .inl rfl | exact .inr rfl)
    (hfs : ∀ x, foldedSetIterable (.List es lpos) X.env x = pure x := by intro _; rfl) : tB X (.For (.Name x p) (.List es lpos) body [] pos :: rest) D' σ H := by
  have al := S.all
  refine tB_cons (ps_for hp hc pi_I pg_G pss_B hfs) (leI (pi_list pe_W) (tW_lst (n := 0) (hv H (Ex.refl H) _ fun H2 x2 => ⟨hz, fun a ha => ⟨a, rfl, ⟨vs, .inl (.inl upd_same)⟩, ?_⟩⟩)))
  have S2 := S.ex (x2.trans (Ex.new (o := .lst vs) ha))
  have na : a ∉ adr M0 μ := (S.ex x2).all.out ha
  have ga : grd μ (upd H2 a (.lst vs)) a = some (.lst vs) := by
    unfold grd
    rw [hid_out (fun z => na (by unfold adr; exact List.mem_append_left _ z))]
    exact upd_same
  refine for_it (walk_list (K := X.K) (a := a) (xs := vs)) (fun i σ' H' => ∃ ρ' μ', I i ρ' μ' ∧ Sy X.K (grd μ (upd H2 a (.lst vs))) M0 ρ' μ' σ' H') ⟨ρ, μ, h0, S2.grd⟩ (fun i σ' H' hi ⟨ρ', μ', _, S'⟩ => .inl (.inl (S'.bs _ _ ga))) (fun i u σ' H' H3 hlt ⟨ρ', μ', hI, S'⟩ y => ?_) fun σ' H' ⟨ρ', μ', hI, S'⟩ => hd ρ' μ' σ' H' hI (S'.base S2.grdB)
  obtain ⟨rfl, hy⟩ := y
  exact leG (pg_name hN hi hx hf) (hs i u ρ' μ' _ _ _ hy hI S2.grdB (S'.set j (s := .val u) rfl))
/-- a call of a def that a variable holds; it raises -/
theorem jx_callL {M : List Addr} {E : XK} {cls : Value} {Q : VK} {k n : Nat} {f : Addr} {fd : FuncData} {ps : List Str} {x : Str} {p : Pos} {e : Expr} {es : List Expr} {ds : List D} {R : List D → D → Prop} {Fl : List D → Value → Prop} (i : Nat) (F : FnOk X.prog X.w X.K X.mg X.base (CX X.prog X.w) k f fd ps (spX X.K n R Fl)) (hb : Binds X.K fd ps []) (hk : PySem.W.keepIn X.K (.ref f) = true) (hr : Room k X.A)
    (tk : Takes X (fun cls d _ H => E cls d H)) (al : Al M H) (hσ : σ[i]? = some (some (.ref f))) (ha : Ja X M (e :: es) σ H ds) (hl : ds.length = n) (hF : Fl ds cls) (kE : ∀ H', Ex H H' → E cls none H') (hN : X.N[i]? = some x := by rfl) (hv : Vis X.env.scope x := by first | exact Or.inl rfl | exact Or.inr rfl)
    (hdb : (x == ("__debug__" : Str)) = false := by decide) (hcd : (x == ("__classdict__" : Str)) = false := by decide) (he : starEach (e :: es) X.env = (false, eval e X.env) :: starEach es X.env := by rfl) (hpl : (backTo pos (starEach es X.env)).any (·.1) = false := by rfl) : tW X (.Call (.Name x p) (e :: es) [] pos) σ H Q := by
  refine leW (pe_callL (E := E) (i := i) (dvs := []) F hr hN hv hk hb .nil (passes_call tk fun _ _ _ _ h => h) pa_A hdb hcd he hpl) ⟨hσ, ha al H (Ex.refl H) _ fun vs H2 z r => ?_⟩
  show spX X.K n R Fl (vs ++ []) H2 Q E
  rw [List.append_nil]
  exact ⟨M, ds, hl, al.ex z, r, .inr ⟨cls, hF, fun H3 u => kE H3 (z.trans u)⟩⟩
end
end J

set_option maxHeartbeats 4000000
/-! J28: l.index(x); ratios of a common denominator. -/
namespace J
open PySem PySem.Spec PyProof.Rows L2 Evl RZ
section
variable {X : Cx} {M : List Addr} {σ : L2.St} {H : Hp} {o e : Expr} {d z : D} {ds : List D} {j : Nat} {apos pos : Pos}
theorem jd_index (hu : X.A.units + 65 < cLine) (ho : Jd X M o σ H (.list ds)) (ha : Jd X M e σ H d) (sl : SeqAt.shaped (.list ds) = true) (sd : SeqAt.shaped d = true) (hz : ds[j]? = some z) (he : PyData.eqv z d = true) (hno : ∀ (m : Nat) (z' : D), m < j → ds[m]? = some z' → PyData.eqv z' d = false)
    (hbase : attributeBase o "index" X.env (eval o X.env) = eval o X.env := by rfl)
    (hfew : ((backTo pos (starEach [e] X.env)).all (fun x => !x.1) && (backToKw pos (keywordEach [] X.env)).all (fun x => x.1.isSome)
      && decide (([e] : List Expr).length + ([] : List Keyword).length + (if ([] : List Keyword).isEmpty then 0 else 1) < 30)) = true := by rfl)
    (hline : (apos.endLine == pos.line) = true := by rfl) (hs : starEach [e] X.env = (false, eval e X.env) :: starEach [] X.env := by rfl) (hplain : (backTo pos (starEach [] X.env)).any (·.1) = false := by rfl) :
    Jd X M (.Call (.Attribute o "index" apos) [e] [] pos) σ H (.int (j : Nat)) := fun al H1 x Q q =>
  leW (pe_bm PySem.F.plainAttrs_list PySem.F.slot_list_index PySem.F.type_list_index (mt_indexD hu) pe_W (pa_cons pe_W pa_nil hs) hbase hfew hline hs hplain) (ho al H1 x _ fun v H2 y p => by
    obtain ⟨a, xs, rfl, e2, e3⟩ := dLst p
    refine ⟨.inl ⟨rfl, _, ex_l hid_le e2⟩, ?_⟩
    refine ha al H2 (x.trans y) _ fun u H3 y3 p3 => ?_
    refine ⟨a, u, d, ds, j, z, rfl, rfl, (p.ex (hid_ex y3)).ex hid_le, p3.ex hid_le, sl, sd, hz, he, hno, q _ H3 (y.trans y3) (.int _)⟩)
/-- l[n:] of a list -/
theorem jd_slLFrom {a b : Expr} {i : Int} {n : Nat} {p2 : Pos} (ha : Jd X M a σ H (.list ds)) (hb : Jd X M b σ H (.int i)) (hi : i = (n : Int)) (hn : n ≤ ds.length) : Jd X M (.Subscript a (.Slice (some b) none none p2) pos) σ H (.list (ds.drop n)) := fun al H1 x Q q =>
  leW (pe_slice sl_list pe_W (po_some pe_W) po_none) (ha al H1 x _ fun v H2 y p => hb al H2 (x.trans y) _ fun w H3 z r => by
    obtain ⟨t, xs, e1, e2, e3⟩ := dLst p
    have e3' := e3.ex (hid_ex (M := M) z)
    have hl := e3.len
    refine ⟨i, dInt r, t, xs, e1, ex_l hid_le (ex_l (hid_ex z) e2), fun c hc => ?_⟩
    have up := hid_ex (M := M) (Ex.new (o := .lst (L2.cutV xs (some i) none)) hc)
    refine q _ _ ((y.trans z).trans (Ex.new hc)) (.lst (SqL.of ((al.ex ((x.trans y).trans z)).newEx hc)) ?_)
    have e : L2.cutV xs (some i) none = xs.drop n := by
      unfold L2.cutV
      rw [hi, HT.sIx_none, HT.sIx_nat, hl, Nat.min_eq_left hn, List.take_of_length_le]
      rw [List.length_drop]
      omega
    rw [e] at up ⊢
    exact (dpDrop n e3').ex up)
end
section
variable {X : Cx} {M : List Addr} {σ : L2.St} {H : Hp} {a b c e : Expr} {pos : Pos} {k l m n : Bool}
/-- or of four -/
theorem jt_or4 (ha : Jt X M a σ H k) (hb : k = false → Jt X M b σ H l) (hc : k = false → l = false → Jt X M c σ H m) (he : k = false → l = false → m = false → Jt X M e σ H n) : Jt X M (.BoolOp .Or [a, b, c, e] pos) σ H (k || (l || (m || n))) := fun al H1 x Q q =>
  leT (pw_or pt_T (pw_or pt_T (pw_or pt_T (pw_or1 pt_T)))).pt (ha al H1 x _ fun H2 y => by
    cases k with
    | false =>
      rw [if_neg Bool.false_ne_true]
      exact hb rfl al H2 (x.trans y) _ fun H3 z => by
        cases l with
        | false =>
          rw [if_neg Bool.false_ne_true]
          exact hc rfl rfl al H3 ((x.trans y).trans z) _ fun H4 z2 => by
            cases m with
            | false => rw [if_neg Bool.false_ne_true]; exact he rfl rfl rfl al H4 (((x.trans y).trans z).trans z2) _ fun H5 z3 => q H5 (((y.trans z).trans z2).trans z3)
            | true => rw [if_pos rfl]; exact q H4 ((y.trans z).trans z2)
        | true => rw [if_pos rfl]; exact q H3 (y.trans z)
    | true => rw [if_pos rfl]; exact q H2 y)
end
section
variable {α : Type} {X : Cx} {B H : Hp} {M0 : List Addr} {ρ : Ro} {μ : Mu} {σ : L2.St} {pos : Pos} {tg iter elt : Expr} {scope : Scope} {own : List (Str × Nat)} {js : List Nat} {rest : List Stmt} {D' : Ends}
/-- y = [elt for tg in iter] -/
theorem sy_setLcM (n : Nat) {y : Str} {py spos : Pos} (S : Sy X.K B M0 ρ μ σ H) {g : α → D} {xs : List α} (hw : Jw X (adr M0 μ) tg iter σ H (xs.map g)) (h : α → D) (hz : xs.length ≤ 90000) (f : D → Ro → Ro) (hjs : ∀ j ∈ js, j ∈ own.map (·.2))
    (hg : ∀ X' x, Blk X scope X' → x ∈ xs → Jg X' tg js (g x) (wip ρ (own.map (·.2))) (f (g x) (wip ρ (own.map (·.2)))))
    (he : ∀ (i : Nat) (x : α) X' B' M' σ' H', xs[i]? = some x → Blk X scope X' → Sy X'.K B' M' (f (g x) (wip ρ (own.map (·.2)))) μ σ' H' → Jd X' (adr M' μ) elt σ' H' (h x))
    (ok : BlkOk X.N X.env.scope scope own) (hc : X.calm = true) (hN : X.N.Nodup) (k : ∀ σ' H', Sy X.K B M0 (ρ.set n (some (.dat (.list (xs.map h))))) μ σ' H' → tB X rest D' σ' H')
    (hy : X.N[n]? = some y := by rfl) (hyl : X.env.scope.names.lookup y = some .local := by rfl) (hsw : swapsWith (.ListComp elt [⟨tg, iter, [], 0⟩] scope pos) (some (.Name y py)) spos.line X.env = pure true := by rfl) (hs : ∀ x, foldedSetIterable iter X.env x = pure x := by intro _; rfl) :
    tB X (.Assign [.Name y py] (.ListComp elt [⟨tg, iter, [], 0⟩] scope pos) spos :: rest) D' σ H := by
  refine tB_setLc n (lcN_tree (ifs := []) (elt := elt) S hw (xs.map fun x => some (h x)) (by simp) (by simpa using hz) f hjs (fun X' d b hd => ?_) (fun i d o X' B' M' σ' H' h1 h2 b S' => ?_) (fun i d x X' B' M' σ' H' h1 h2 b S' => ?_) S.all (Ex.refl H) fun a vs H2 x hn h1 h2 => ?_) ok hc hN hy hyl hsw hs
  · obtain ⟨x, hx, rfl⟩ := List.mem_map.mp hd
    exact hg X' x b hx
  · rw [List.getElem?_map] at h1 h2
    obtain ⟨n, hn, rfl⟩ := Option.map_eq_some_iff.mp h1
    rw [hn] at h2
    cases h2
    exact jts_nil
  · rw [List.getElem?_map] at h1 h2
    obtain ⟨n, hn, rfl⟩ := Option.map_eq_some_iff.mp h1
    rw [hn] at h2
    cases h2
    exact he i n X' B' M' σ' H' hn b S'
  · rw [fmm] at h2
    have al := S.all
    exact k _ H2 ((S.ex x).set n (s := .dat (.list (xs.map h))) (.lst (SqL.of (by rw [hid_out (al.out hn)]; exact h1)) (h2.ex (hid_sub fun b hb => List.mem_cons_of_mem _ hb))))
end
/-! ### of a common denominator -/
/-- r is n / D -/
def Dv (D : Nat) (r : Rat) : Prop := 0 < D ∧ ∃ n : Int, r * (D : Rat) = (n : Rat)
theorem natR_pos {D : Nat} (h : 0 < D) : (0 : Rat) < (D : Rat) := Rat.natCast_pos.mpr h
section
variable {a b r : Rat} {D E : Nat}
theorem dv_add (ha : Dv D a) (hb : Dv D b) : Dv D (a + b) := by
  obtain ⟨h, n, hn⟩ := ha; obtain ⟨_, m, hm⟩ := hb
  exact ⟨h, n + m, by rw [Rat.intCast_add, Rat.add_mul, hn, hm]⟩
theorem dv_neg (ha : Dv D a) : Dv D (-a) := by
  obtain ⟨h, n, hn⟩ := ha
  exact ⟨h, -n, by rw [Rat.intCast_neg, Rat.neg_mul, hn]⟩
theorem dv_sub (ha : Dv D a) (hb : Dv D b) : Dv D (a - b) := by
  rw [Rat.sub_eq_add_neg]; exact dv_add ha (dv_neg hb)
theorem dv_mul (ha : Dv D a) (hb : Dv E b) : Dv (D * E) (a * b) := by
  obtain ⟨h, n, hn⟩ := ha; obtain ⟨h', m, hm⟩ := hb
  refine ⟨Nat.mul_pos h h', n * m, ?_⟩
  rw [Rat.intCast_mul, Rat.natCast_mul, ← hn, ← hm]
  grind
theorem dv_up (ha : Dv D a) (hE : 0 < E) : Dv (D * E) a := by
  obtain ⟨h, n, hn⟩ := ha
  refine ⟨Nat.mul_pos h hE, n * (E : Int), ?_⟩
  rw [Rat.intCast_mul, Rat.natCast_mul, ← hn, Rat.intCast_natCast]
  grind
theorem dv_up' (ha : Dv E a) (hD : 0 < D) : Dv (D * E) a := by rw [Nat.mul_comm]; exact dv_up ha hD
theorem dv_dvd (ha : Dv D a) (h : D ∣ E) (hE : 0 < E) : Dv E a := by
  obtain ⟨k, rfl⟩ := h
  exact dv_up ha (Nat.pos_of_ne_zero fun z => by rw [z] at hE; omega)
theorem mul_den (r : Rat) : r * (r.den : Rat) = (r.num : Rat) := by
  have h := Rat.num_divInt_den r
  rw [Rat.divInt_eq_div, Rat.intCast_natCast] at h
  have p := natR_pos (Nat.pos_of_ne_zero r.den_nz)
  have p2 : (r.den : Rat) ≠ 0 := by grind
  grind
theorem dv_den (r : Rat) : Dv r.den r := ⟨Nat.pos_of_ne_zero r.den_nz, r.num, mul_den r⟩
theorem dv_int (n : Int) (hD : 0 < D) : Dv D (n : Rat) := ⟨hD, n * D, by rw [Rat.intCast_mul, Rat.intCast_natCast]⟩
theorem dv_zero (hD : 0 < D) : Dv D 0 := dv_int 0 hD
theorem dv_one (hD : 0 < D) : Dv D 1 := dv_int 1 hD
theorem dv_sum {l : List Rat} (hD : 0 < D) (h : ∀ x ∈ l, Dv D x) : Dv D l.sum := by
  induction l with
  | nil => exact dv_zero hD
  | cons x l ih => rw [List.sum_cons]; exact dv_add (h x List.mem_cons_self) (ih fun y hy => h y (List.mem_cons_of_mem _ hy))
theorem dv_abs {x : Rat} (h : Dv D x) : Dv D x.abs := by
  rcases (Rat.le_total : (0 : Rat) ≤ x ∨ x ≤ 0) with q | q
  · rw [Rat.abs_of_nonneg q]; exact h
  · rw [Rat.abs_of_nonpos q]; exact dv_neg h
theorem bz_dv {c B : Nat} (h : Dv D r) (h1 : -(c : Rat) ≤ r) (h2 : r ≤ c) (hB : 0 < B) (hD : c * D < 2 ^ B) (hD2 : D < 2 ^ B) : Bz B r := by
  obtain ⟨h0, n, hn⟩ := h
  have p := natR_pos h0
  have e : r = (n : Rat) / (D : Rat) := by
    rw [← hn]
    have : (D : Rat) ≠ 0 := by grind
    grind
  have e2 : r = Rat.divInt n (D : Int) := by rw [e, Rat.divInt_eq_div, Rat.intCast_natCast]
  have u : (n : Rat) ≤ ((c * D : Nat) : Rat) := by rw [← hn, Rat.natCast_mul]; exact Rat.mul_le_mul_of_nonneg_right h2 (Rat.le_of_lt p)
  have l : (-((c * D : Nat) : Int) : Rat) ≤ (n : Rat) := by
    rw [← hn, Rat.intCast_natCast, Rat.natCast_mul, ← Rat.neg_mul]; exact Rat.mul_le_mul_of_nonneg_right h1 (Rat.le_of_lt p)
  have u2 : n ≤ ((c * D : Nat) : Int) := by rw [← Rat.intCast_natCast] at u; exact Rat.intCast_le_intCast.mp u
  have l2 : -((c * D : Nat) : Int) ≤ n := by rw [← Rat.intCast_neg] at l; exact Rat.intCast_le_intCast.mp l
  rw [e2]
  exact bz_of (by omega) hB (by omega) (by omega)
end
end J

set_option maxHeartbeats 4000000
/-! J29: list + list; a comprehension whose test changes objects and never passes. -/
namespace J
open PySem PySem.Spec PyProof.Rows L2 Evl RZ
section
variable {X : Cx} {B H : Hp} {M M0 : List Addr} {ρ : Ro} {μ : Mu} {σ : L2.St} {a b : Expr} {ds es : List D} {pos : Pos} {ad : Addr} {i : Nat}
theorem jn_cat (ha : Jn X M a σ H ds) (hb : Jn X M b σ H es) (hz : ds.length + es.length ≤ 90000) : Jn X M (.BinOp a .Add b pos) σ H (ds ++ es) := fun al H1 x Q q =>
  leW (pe_op op_cat pe_W pe_W) (ha al H1 x _ fun u vs H2 y hn hu pu => hb al H2 (x.trans y) _ fun v ws H3 z hm hv pv => by
    have hu3 : H3 u = some (.lst vs) := z _ _ hu
    refine ⟨u, v, vs, ws, rfl, rfl, hu3, hv, sz_of (by rw [pu.len, pv.len]; omega), fun p hp => ?_⟩
    have n1 : H1 p = none := by
      cases q1 : H1 p with
      | none => rfl
      | some o => rw [(y.trans z) _ _ q1] at hp; cases hp
    refine q p (vs ++ ws) _ ((y.trans z).trans (Ex.new hp)) n1 upd_same ?_
    rw [hid_new hp]
    exact ((pu.ex (hid_ex z)).ex (hid_sub fun b hb => List.mem_cons_of_mem _ hb)).append (pv.ex (hid_sub fun b hb => List.mem_cons_of_mem _ hb)))
/-- .. the first one's own -/
theorem jn_catO (S : Sy X.K B M0 ρ μ σ H) (ha : Jv X a σ H (.ref ad)) (hi : μ[i]? = some (ad, .lst (ds.map .dat))) (hb : Jn X (adr M0 μ) b σ H es) (hz : ds.length + es.length ≤ 90000) : Jn X (adr M0 μ) (.BinOp a .Add b pos) σ H (ds ++ es) := fun al H1 x Q q =>
  leW (pe_op op_cat pe_W pe_W) (ha H1 x _ fun H2 y => hb al H2 (x.trans y) _ fun v ws H3 z hm hv pv => by
    obtain ⟨vs, g1, g2⟩ := S.own hi
    have g2' := dats_of g2
    have hu3 : H3 ad = some (.lst vs) := ((x.trans y).trans z) _ _ g1
    refine ⟨ad, v, vs, ws, rfl, rfl, hu3, hv, sz_of (by rw [g2'.len, pv.len]; omega), fun p hp => ?_⟩
    have n1 : H1 p = none := by
      cases q1 : H1 p with
      | none => rfl
      | some o => rw [(y.trans z) _ _ q1] at hp; cases hp
    refine q p (vs ++ ws) _ ((y.trans z).trans (Ex.new hp)) n1 upd_same ?_
    rw [hid_new hp]
    exact (g2'.ex (hid_ex ((x.trans y).trans z))).append (pv.ex (hid_sub fun b hb => List.mem_cons_of_mem _ hb)))
end
section
variable {X : Cx} {B H : Hp} {M0 : List Addr} {ρ : Ro} {μ : Mu} {σ : L2.St} {ds : List D} {pos : Pos} {tg iter elt c : Expr} {scope : Scope} {own : List (Str × Nat)} {js : List Nat}
theorem lcF_tree (S : Sy X.K B M0 ρ μ σ H) (hw : Jw X (adr M0 μ) tg iter σ H ds) (f : D → Ro → Ro) (hjs : ∀ j ∈ js, j ∈ own.map (·.2)) (I : Nat → Mu → Prop) (h0 : I 0 μ)
    (hg : ∀ X' d, Blk X scope X' → d ∈ ds → Jg X' tg js d (wip ρ (own.map (·.2))) (f d (wip ρ (own.map (·.2)))))
    (ht : ∀ (i : Nat) (d : D) (μ' : Mu) X' B' M' σ' H' (Q : Bool → Hp → Prop), ds[i]? = some d → I i μ' → Blk X scope X' → Sy X'.K B' M' (f d (wip ρ (own.map (·.2)))) μ' σ' H' →
      (∀ μ'' H'', I (i + 1) μ'' → Sy X'.K B' M' (f d (wip ρ (own.map (·.2)))) μ'' σ' H'' → Q false H'') → tT X' c σ' H' Q)
    {Q : VK} (k : ∀ a μ' H', I ds.length μ' → Sy X.K B M0 ρ ((a, .lst []) :: μ') σ H' → Q (.ref a) H') :
    tLc (tI X tg iter) (tGb X scope tg) (tTsb X scope [c]) (tWb X scope elt) (own.map (·.2)) σ H Q := by
  refine hw S.all H (Ex.refl H) _ fun Jt2 H2 x2 yl Dl hD => ?_
  have S2 := S.ex x2
  obtain ⟨G, Y, w, hG, hY⟩ := yl
  let Pv : Nat → Hp → Prop := fun i H' => ∃ μ', I i μ' ∧ Sy X.K (J.grd μ H2) M0 ρ (μ' ++ [(Dl, .lst ([] : List Sv))]) σ H'
  have low : hid M0 (J.grd μ H2) = hid (adr M0 μ) H2 := grd_low
  have S0 : Sy X.K (J.grd μ H2) M0 ρ (μ ++ [(Dl, .lst ([] : List Sv))]) σ (L2.upd H2 Dl (.lst [])) := (S2.grd.newN (.lst []) (Ex.new hD) hD ⟨[], upd_same, .nil⟩).perm (List.perm_append_comm (l₁ := μ) (l₂ := [_]))
  refine lc_it w Pv ⟨μ, h0, S0⟩ (fun i H' hi p => hG H' ?_) (fun i x H' H3 hi p y => ?_) (fun H' p => ?_)
  · obtain ⟨μ', _, S'⟩ := p
    rw [← low]; exact S'.low.trans hid_le
  · obtain ⟨μ', hI, S'⟩ := p
    have g0 : Ex (hid (adr M0 μ) H2) (hid (adr M0 (μ' ++ [(Dl, .lst ([] : List Sv))])) H') := by rw [← low]; exact S'.low
    obtain ⟨x3, dx⟩ := hY i H' x H3 hi (g0.trans hid_le) y
    have hdi : ds[i]? = some ds[i] := List.getElem?_eq_getElem hi
    have q := dx _ S'.all g0 ds[i] hdi
    have S3 := S'.ex x3
    have S3w := (S3.wipe (own.map (·.2))).split
    rw [← adr_app] at q
    intro X' hX
    have eK : X'.K = X.K := by obtain ⟨_, _, _, _, _, rfl⟩ := hX; rfl
    refine hg X' ds[i] hX (List.getElem_mem hi) _ _ _ _ _ _ (by rw [eK]; exact S3w) (by rw [eK]; exact q) _ fun σ4 S4 l4 o4 => ⟨?_, ?_⟩
    · rw [wipe_eq (vs := own.map (·.2)) l4 fun j hj => o4 j fun z => hj (hjs j z)]
      exact wipe_eq (wipe_length _ _) fun j hj => wipe_out hj
    · intro X2 hX2
      have eK2 : X2.K = X'.K := by obtain ⟨_, _, _, _, _, rfl⟩ := hX2; exact eK.symm
      have eKK : X2.K = X.K := eK2.trans eK
      have S5' : Sy X2.K (J.grd μ' H3) (adr M0 [(Dl, .lst ([] : List Sv))]) (f ds[i] (wip ρ (own.map (·.2)))) μ' σ4 H3 := by
        rw [eK2]
        exact S4.grd
      refine fun pins s' Iv => (pts_one pt_T).run pins s' σ4 H3 _ Iv (ht i ds[i] μ' X2 _ _ σ4 H3 _ hdi hI hX2 S5' fun μ'' H6 hI6 S6 => ?_)
      rw [if_neg (by decide)]
      have S6' : Sy X.K (J.grd μ' H3) (adr M0 [(Dl, .lst ([] : List Sv))]) (f ds[i] (wip ρ (own.map (·.2)))) μ'' σ4 H6 := by rw [← eKK]; exact S6
      exact ⟨μ'', hI6, S3.keep S6'⟩
  · obtain ⟨μ', hI, S'⟩ := p
    exact k Dl μ' H' hI ((S'.base S2.grdB).perm (List.perm_append_comm (l₁ := [_]) (l₂ := μ')))
/-- e != [], e one's own empty list -/
theorem tT_neNil {e : Expr} {p2 : Pos} {Q : Bool → Hp → Prop} (hu : X.A.units + 64 < cLine) (h : tW X e σ H fun v H' => ∃ (a : Addr) (B' : Hp) (M' : List Addr) (ρ' : Ro) (μ' : Mu), v = .ref a ∧ Sy X.K B' M' ρ' ((a, .lst []) :: μ') σ H' ∧ ∀ H'', Ex H' H'' → Q false H'') : tT X (.Compare e [.NotEq] [.List [] p2] pos) σ H Q :=
  leT (pt_cmpR (op_neD hu) pe_W pe_W (nm _ rfl rfl)) (tW_mono h fun v H' ⟨a, B', M', ρ', μ', e, S', k⟩ => by
    subst e
    refine (jd_lst (M := []) ja_nil) Al.nil H' (Ex.refl H') _ fun w H3 z r => ?_
    obtain ⟨vs, g1, g2⟩ := S'.own (i := 0) rfl
    have e : vs = [] := by cases g2; rfl
    subst e
    exact ⟨.list [], .list [], .lst (SqL.of (z _ _ g1)) .nil, by rw [hid_nil] at r; exact r, rfl, rfl, _, rfl, k H3 z⟩)
end
end J

set_option maxHeartbeats 4000000
/-! J30: a list of values on the way; three names at once; l[n:] as a new list. -/
namespace J
open PySem PySem.Spec PyProof.Rows L2 Evl RZ
section
variable {K : PySem.W.Frag} {B H : Hp} {M0 : List Addr} {ρ : Ro} {μ : Mu} {σ : L2.St} {ts us : List Sv} {vs ws : List V} {ds : List D}
theorem Sx.mkLst {a : Addr} (S : Sx K B M0 ρ μ σ (ts ++ us) (vs ++ ws) H) (hl : ts.length = vs.length) (hu : us = ds.map .dat) (hn : H a = none) : Sx K B M0 ρ μ σ (ts ++ [.dat (.list ds)]) (vs ++ [.ref a]) (upd H a (.lst ws)) := by
  have hr := S.right hl
  subst hu
  have S1 := (S.take hl).ex (Ex.new (o := .lst ws) hn)
  refine S1.push (.lst (SqL.of (S.1.all.newEx hn)) ((dats_of hr).ex (hid_ex (Ex.new hn))))
end
section
variable {X : Cx} {M : List Addr} {σ : L2.St} {H : Hp} {a b c : Expr} {ds : List D} {i : Int} {n : Nat} {p2 pos : Pos} {rest : List Stmt} {D' : Ends}
theorem jn_slLFrom (ha : Jd X M a σ H (.list ds)) (hb : Jd X M b σ H (.int i)) (hi : i = (n : Int)) (hn : n ≤ ds.length) : Jn X M (.Subscript a (.Slice (some b) none none p2) pos) σ H (ds.drop n) := fun al H1 x Q q =>
  leW (pe_slice sl_list pe_W (po_some pe_W) po_none) (ha al H1 x _ fun v H2 y p => hb al H2 (x.trans y) _ fun w H3 z r => by
    obtain ⟨t, xs, e1, e2, e3⟩ := dLst p
    have e3' := e3.ex (hid_ex (M := M) z)
    have hl := e3.len
    refine ⟨i, dInt r, t, xs, e1, ex_l hid_le (ex_l (hid_ex z) e2), fun c hc => ?_⟩
    have e : L2.cutV xs (some i) none = xs.drop n := by
      unfold L2.cutV
      rw [hi, HT.sIx_none, HT.sIx_nat, hl, Nat.min_eq_left hn, List.take_of_length_le]
      rw [List.length_drop]
      omega
    rw [e]
    have n1 : H1 c = none := by
      cases q1 : H1 c with
      | none => rfl
      | some o => rw [(y.trans z) _ _ q1] at hc; cases hc
    refine q c (xs.drop n) _ ((y.trans z).trans (Ex.new hc)) n1 upd_same ?_
    rw [hid_new hc]
    exact dpDrop n e3')
theorem sy_par3E (i j l : Nat) {x y z : Str} {px py pz pt : Pos} {kt k2 pt2} (h : tA X [a, b, c] σ H fun vs H' => ∃ v v2 v3, vs = [v, v2, v3] ∧ tB X rest D' (((σ.set i (some v)).set j (some v2)).set l (some v3)) H')
    (hc : X.calm = true) (hN : X.N.Nodup) (hij : i ≠ j) (hil : i ≠ l) (hjl : j ≠ l) (hw : swappedStores [.Tuple [.Name x px, .Name y py, .Name z pz] kt pt] (.Tuple [a, b, c] k2 pt2) X.env = pure (some [x, y, z])) (hi : X.N[i]? = some x := by rfl) (hj : X.N[j]? = some y := by rfl) (hl : X.N[l]? = some z := by rfl)
    (hx : X.env.scope.names.lookup x = some .local := by rfl) (hy : X.env.scope.names.lookup y = some .local := by rfl) (hz : X.env.scope.names.lookup z = some .local := by rfl) (hs : swapsWithSole [.Tuple [.Name x px, .Name y py, .Name z pz] kt pt] (.Tuple [a, b, c] k2 pt2) pos.line X.env = pure false := by rfl) :
    tB X (.Assign [.Tuple [.Name x px, .Name y py, .Name z pz] kt pt] (.Tuple [a, b, c] k2 pt2) pos :: rest) D' σ H :=
  tB_cons (ps_par3 hc hN hi hj hl hij hil hjl hx hy hz pa_A hw hs) h
end
end J

set_option maxHeartbeats 4000000
/-! J31: a loop over values, the list one's own. -/
namespace J
open PySem PySem.Spec PyProof.Rows L2 Evl RZ
section
variable {X : Cx} {B H : Hp} {M0 : List Addr} {ρ : Ro} {μ : Mu} {σ : L2.St} {pos : Pos} {rest body : List Stmt} {D' : Ends}
theorem paired_val {K : PySem.W.Frag} {G : Hp} : ∀ vs : List V, Paired (fun s v => Sv.holds K G s v) (vs.map .val) vs
  | [] => .nil
  | v :: vs => .cons rfl (paired_val vs)
theorem paired_val_eq {K : PySem.W.Frag} {G : Hp} : ∀ {vs ws : List V}, Paired (fun s v => Sv.holds K G s v) (vs.map .val) ws → ws = vs
  | [], _, h => by cases h; rfl
  | v :: vs, _, h => by cases h with | cons a b => rw [show _ = v from a, paired_val_eq b]
theorem sy_forVO {es : List Expr} {vs : List V} {x : Str} {p lpos : Pos} (j : Nat) (S : Sy X.K B M0 ρ μ σ H) (hv : Jva X es σ H vs) (I : Nat → Ro → Mu → Prop) (h0 : I 0 ρ μ)
    (hs : ∀ a i v ρ' μ' σ' H', vs[i]? = some v → I i ρ' μ' → Sy X.K B M0 (ρ'.set j (some (.val v))) ((a, .lst (vs.map .val)) :: μ') σ' H' →
      tB X body ⟨fun σ2 H2 => ∃ ρ2 μ2, I (i + 1) ρ2 μ2 ∧ Sy X.K B M0 ρ2 ((a, .lst (vs.map .val)) :: μ2) σ2 H2, D'.rt, tB X rest D', fun σ2 H2 => ∃ ρ2 μ2, I (i + 1) ρ2 μ2 ∧ Sy X.K B M0 ρ2 ((a, .lst (vs.map .val)) :: μ2) σ2 H2⟩ σ' H')
    (hd : ∀ ρ' μ' σ' H', I vs.length ρ' μ' → Sy X.K B M0 ρ' μ' σ' H' → tB X rest D' σ' H')
    (hp : PassesOwn (model X.prog X.w) X.A X.env X.xe) (hc : X.calm = true) (hN : X.N.Nodup) (hz : vs.length ≤ 100000) (hi : X.N[j]? = some x := by rfl) (hx : Loc X.env.scope x := by first | exact Or.inl rfl | exact Or.inr rfl) (hf : X.fn x = true ∨ X.env.scope.names.lookup x = some .local := by first | exact .inl rfl | exact .inr rfl)
    (hfs : ∀ x, foldedSetIterable (.List es lpos) X.env x = pure x := by intro _; rfl) : tB X (.For (.Name x p) (.List es lpos) body [] pos :: rest) D' σ H := by
  refine tB_cons (ps_for hp hc pi_I pg_G pss_B hfs) (leI (pi_list pe_W) (tW_lst (n := 0) (hv H (Ex.refl H) _ fun H2 x2 => ⟨hz, fun a ha => ⟨a, rfl, ⟨vs, .inl (.inl upd_same)⟩, ?_⟩⟩)))
  have S2 : Sy X.K B M0 ρ ((a, .lst (vs.map .val)) :: μ) σ (upd H2 a (.lst vs)) := (S.ex x2).newN (.lst (vs.map .val)) (Ex.new ha) ha ⟨vs, upd_same, paired_val vs⟩
  refine for_it (walk_list (K := X.K) (a := a) (xs := vs)) (fun i σ' H' => ∃ ρ' μ', I i ρ' μ' ∧ Sy X.K B M0 ρ' ((a, .lst (vs.map .val)) :: μ') σ' H') ⟨ρ, μ, h0, S2⟩ (fun i σ' H' hi ⟨ρ', μ', _, S'⟩ => ?_) (fun i u σ' H' H3 hlt ⟨ρ', μ', hI, S'⟩ y => ?_) fun σ' H' ⟨ρ', μ', hI, S'⟩ => hd ρ' μ' σ' H' hI S'.drop1
  · obtain ⟨ws, g1, g2⟩ := S'.own (i := 0) rfl
    rw [paired_val_eq g2] at g1
    exact .inl (.inl g1)
  · obtain ⟨rfl, hy⟩ := y
    exact leG (pg_name hN hi hx hf) (hs a i u ρ' μ' _ _ hy hI (S'.set j (s := .val u) rfl))
end
end J

set_option maxHeartbeats 4000000
namespace K60
open PySem PySem.Spec PyProof.Rows L2 J
/-! ### the text, by places -/
def top (i : Nat) : Stmt := PySem.Challenge.pw_judgedalike_k60_whole_make_ups_near_one.main.body.getD i (.Pass ⟨0, 0, 0, 0⟩)
abbrev s_is_whole : Stmt := top 10
abbrev N_is_whole : List Str := ["value"]
theorem sc_is_whole : FnScope N_is_whole ["value"] (defScope s_is_whole) := ⟨rfl, rfl, rfl, by decide +kernel, rfl, by decide +kernel, by decide +kernel⟩
abbrev s_is_ratio : Stmt := top 11
abbrev N_is_ratio : List Str := ["value", "part"]
theorem sc_is_ratio : FnScope N_is_ratio ["value"] (defScope s_is_ratio) := ⟨rfl, rfl, rfl, by decide +kernel, rfl, by decide +kernel, by decide +kernel⟩
abbrev s_is_chance : Stmt := top 12
abbrev N_is_chance : List Str := ["value"]
theorem sc_is_chance : FnScope N_is_chance ["value"] (defScope s_is_chance) := ⟨rfl, rfl, rfl, by decide +kernel, rfl, by decide +kernel, by decide +kernel⟩
abbrev s_lowest : Stmt := top 13
abbrev N_lowest : List Str := ["n", "d", "common"]
theorem sc_lowest : FnScope N_lowest ["n", "d"] (defScope s_lowest) := ⟨rfl, rfl, rfl, by decide +kernel, rfl, by decide +kernel, by decide +kernel⟩
abbrev s_plus : Stmt := top 14
abbrev N_plus : List Str := ["one", "other"]
theorem sc_plus : FnScope N_plus ["one", "other"] (defScope s_plus) := ⟨rfl, rfl, rfl, by decide +kernel, rfl, by decide +kernel, by decide +kernel⟩
abbrev s_minus : Stmt := top 15
abbrev N_minus : List Str := ["one", "other"]
theorem sc_minus : FnScope N_minus ["one", "other"] (defScope s_minus) := ⟨rfl, rfl, rfl, by decide +kernel, rfl, by decide +kernel, by decide +kernel⟩
abbrev s_times : Stmt := top 16
abbrev N_times : List Str := ["one", "other"]
theorem sc_times : FnScope N_times ["one", "other"] (defScope s_times) := ⟨rfl, rfl, rfl, by decide +kernel, rfl, by decide +kernel, by decide +kernel⟩
abbrev s_over : Stmt := top 17
abbrev N_over : List Str := ["one", "other"]
theorem sc_over : FnScope N_over ["one", "other"] (defScope s_over) := ⟨rfl, rfl, rfl, by decide +kernel, rfl, by decide +kernel, by decide +kernel⟩
abbrev s_is_less : Stmt := top 18
abbrev N_is_less : List Str := ["one", "other"]
theorem sc_is_less : FnScope N_is_less ["one", "other"] (defScope s_is_less) := ⟨rfl, rfl, rfl, by decide +kernel, rfl, by decide +kernel, by decide +kernel⟩
abbrev s_total : Stmt := top 19
abbrev N_total : List Str := ["ratios", "found", "each"]
theorem sc_total : FnScope N_total ["ratios"] (defScope s_total) := ⟨rfl, rfl, rfl, by decide +kernel, rfl, by decide +kernel, by decide +kernel⟩
abbrev s_least_of : Stmt := top 20
abbrev N_least_of : List Str := ["ratios", "found", "each"]
theorem sc_least_of : FnScope N_least_of ["ratios"] (defScope s_least_of) := ⟨rfl, rfl, rfl, by decide +kernel, rfl, by decide +kernel, by decide +kernel⟩
abbrev s_greatest_of : Stmt := top 21
abbrev N_greatest_of : List Str := ["ratios", "found", "each"]
theorem sc_greatest_of : FnScope N_greatest_of ["ratios"] (defScope s_greatest_of) := ⟨rfl, rfl, rfl, by decide +kernel, rfl, by decide +kernel, by decide +kernel⟩
abbrev s_mean_of : Stmt := top 22
abbrev N_mean_of : List Str := ["ratios", "shares", "share", "ratio_"]
theorem sc_mean_of : FnScope N_mean_of ["ratios", "shares"] (defScope s_mean_of) := ⟨rfl, rfl, rfl, by decide +kernel, rfl, by decide +kernel, by decide +kernel⟩
abbrev s_is_pair : Stmt := top 25
abbrev N_is_pair : List Str := ["value"]
theorem sc_is_pair : FnScope N_is_pair ["value"] (defScope s_is_pair) := ⟨rfl, rfl, rfl, by decide +kernel, rfl, by decide +kernel, by decide +kernel⟩
abbrev s_is_rates : Stmt := top 26
abbrev N_is_rates : List Str := ["value", "pair"]
theorem sc_is_rates : FnScope N_is_rates ["value"] (defScope s_is_rates) := ⟨rfl, rfl, rfl, by decide +kernel, rfl, by decide +kernel, by decide +kernel⟩
abbrev s_need_rates : Stmt := top 27
abbrev N_need_rates : List Str := ["rates"]
theorem sc_need_rates : FnScope N_need_rates ["rates"] (defScope s_need_rates) := ⟨rfl, rfl, rfl, by decide +kernel, rfl, by decide +kernel, by decide +kernel⟩
abbrev s_firsts : Stmt := top 28
abbrev N_firsts : List Str := ["rates", "one", "other"]
theorem sc_firsts : FnScope N_firsts ["rates"] (defScope s_firsts) := ⟨rfl, rfl, rfl, by decide +kernel, rfl, by decide +kernel, by decide +kernel⟩
abbrev s_seconds : Stmt := top 29
abbrev N_seconds : List Str := ["rates", "one", "other"]
theorem sc_seconds : FnScope N_seconds ["rates"] (defScope s_seconds) := ⟨rfl, rfl, rfl, by decide +kernel, rfl, by decide +kernel, by decide +kernel⟩
abbrev s_room_of : Stmt := top 30
abbrev N_room_of : List Str := ["rates"]
theorem sc_room_of : FnScope N_room_of ["rates"] (defScope s_room_of) := ⟨rfl, rfl, rfl, by decide +kernel, rfl, by decide +kernel, by decide +kernel⟩
abbrev s_at_one : Stmt := top 31
abbrev N_at_one : List Str := ["many", "spot", "at"]
theorem sc_at_one : FnScope N_at_one ["many", "spot"] (defScope s_at_one) := ⟨rfl, rfl, rfl, by decide +kernel, rfl, by decide +kernel, by decide +kernel⟩
abbrev s_mixed : Stmt := top 32
abbrev N_mixed : List Str := ["one", "other", "share", "rest", "first", "second"]
theorem sc_mixed : FnScope N_mixed ["one", "other", "share"] (defScope s_mixed) := ⟨rfl, rfl, rfl, by decide +kernel, rfl, by decide +kernel, by decide +kernel⟩
abbrev s_gap_of : Stmt := top 33
abbrev N_gap_of : List Str := ["rates", "pair"]
theorem sc_gap_of : FnScope N_gap_of ["rates", "pair"] (defScope s_gap_of) := ⟨rfl, rfl, rfl, by decide +kernel, rfl, by decide +kernel, by decide +kernel⟩
abbrev s_filled : Stmt := top 34
abbrev N_filled : List Str := ["rates", "pair", "even", "share", "gap", "low", "_"]
theorem sc_filled : FnScope N_filled ["rates", "pair"] (defScope s_filled) := ⟨rfl, rfl, rfl, by decide +kernel, rfl, by decide +kernel, by decide +kernel⟩
abbrev s_need_tuple : Stmt := top 36
abbrev N_need_tuple : List Str := ["shares", "share"]
theorem sc_need_tuple : FnScope N_need_tuple ["shares"] (defScope s_need_tuple) := ⟨rfl, rfl, rfl, by decide +kernel, rfl, by decide +kernel, by decide +kernel⟩
abbrev s_apart : Stmt := top 37
abbrev N_apart : List Str := ["one", "other", "gaps", "first", "second", "gap"]
theorem sc_apart : FnScope N_apart ["one", "other"] (defScope s_apart) := ⟨rfl, rfl, rfl, by decide +kernel, rfl, by decide +kernel, by decide +kernel⟩
abbrev s_need_slack : Stmt := top 38
abbrev N_need_slack : List Str := ["slack"]
theorem sc_need_slack : FnScope N_need_slack ["slack"] (defScope s_need_slack) := ⟨rfl, rfl, rfl, by decide +kernel, rfl, by decide +kernel, by decide +kernel⟩
abbrev s_nearest_gap : Stmt := top 39
abbrev N_nearest_gap : List Str := ["rates", "one", "other"]
theorem sc_nearest_gap : FnScope N_nearest_gap ["rates"] (defScope s_nearest_gap) := ⟨rfl, rfl, rfl, by decide +kernel, rfl, by decide +kernel, by decide +kernel⟩
abbrev s_widest_gap : Stmt := top 40
abbrev N_widest_gap : List Str := ["rates", "slack"]
theorem sc_widest_gap : FnScope N_widest_gap ["rates", "slack"] (defScope s_widest_gap) := ⟨rfl, rfl, rfl, by decide +kernel, rfl, by decide +kernel, by decide +kernel⟩
abbrev s_widest_shares : Stmt := top 41
abbrev N_widest_shares : List Str := ["rates", "slack", "near", "many", "gaps", "low", "high", "one", "other"]
theorem sc_widest_shares : FnScope N_widest_shares ["rates", "slack"] (defScope s_widest_shares) := ⟨rfl, rfl, rfl, by decide +kernel, rfl, by decide +kernel, by decide +kernel⟩
abbrev s_gap_shares : Stmt := top 42
abbrev N_gap_shares : List Str := ["rates", "slack"]
theorem sc_gap_shares : FnScope N_gap_shares ["rates", "slack"] (defScope s_gap_shares) := ⟨rfl, rfl, rfl, by decide +kernel, rfl, by decide +kernel, by decide +kernel⟩
abbrev s_least_unlike : Stmt := top 43
abbrev N_least_unlike : List Str := ["rates", "near", "room"]
theorem sc_least_unlike : FnScope N_least_unlike ["rates"] (defScope s_least_unlike) := ⟨rfl, rfl, rfl, by decide +kernel, rfl, by decide +kernel, by decide +kernel⟩
abbrev s_nearly_reversing : Stmt := top 44
abbrev N_nearly_reversing : List Str := ["rates", "slack"]
theorem sc_nearly_reversing : FnScope N_nearly_reversing ["rates", "slack"] (defScope s_nearly_reversing) := ⟨rfl, rfl, rfl, by decide +kernel, rfl, by decide +kernel, by decide +kernel⟩
abbrev s_law_begun : Stmt := top 46
abbrev N_law_begun : List Str := ["script", "great", "cell"]
theorem sc_law_begun : FnScope N_law_begun ["script"] (defScope s_law_begun) := ⟨rfl, rfl, rfl, by decide +kernel, rfl, by decide +kernel, by decide +kernel⟩
abbrev s_law_blended : Stmt := top 47
abbrev N_law_blended : List Str := ["state", "prime", "turn", "found", "blend", "cell"]
theorem sc_law_blended : FnScope N_law_blended ["state"] (defScope s_law_blended) := ⟨rfl, rfl, rfl, by decide +kernel, rfl, by decide +kernel, by decide +kernel⟩
abbrev s_law_draw : Stmt := top 48
abbrev N_law_draw : List Str := ["state", "room", "found"]
theorem sc_law_draw : FnScope N_law_draw ["state", "room"] (defScope s_law_draw) := ⟨rfl, rfl, rfl, by decide +kernel, rfl, by decide +kernel, by decide +kernel⟩
abbrev s_law_pick : Stmt := top 49
abbrev N_law_pick : List Str := ["state", "some"]
theorem sc_law_pick : FnScope N_law_pick ["state", "some"] (defScope s_law_pick) := ⟨rfl, rfl, rfl, by decide +kernel, rfl, by decide +kernel, by decide +kernel⟩
abbrev s_law_caught : Stmt := top 50
abbrev N_law_caught : List Str := ["action", "found", "error"]
theorem sc_law_caught : FnScope N_law_caught ["action"] (defScope s_law_caught) := ⟨rfl, rfl, rfl, by decide +kernel, rfl, by decide +kernel, by decide +kernel⟩
abbrev s_law_is_truth : Stmt := top 51
abbrev N_law_is_truth : List Str := ["found", "due"]
theorem sc_law_is_truth : FnScope N_law_is_truth ["found", "due"] (defScope s_law_is_truth) := ⟨rfl, rfl, rfl, by decide +kernel, rfl, by decide +kernel, by decide +kernel⟩
abbrev s_law_same : Stmt := top 52
abbrev N_law_same : List Str := ["found", "due", "waiting", "one", "other", "alike", "key", "left", "right"]
theorem sc_law_same : FnScope N_law_same ["found", "due"] (defScope s_law_same) := ⟨rfl, rfl, rfl, by decide +kernel, rfl, by decide +kernel, by decide +kernel⟩
abbrev s_law_q : Stmt := top 53
abbrev N_law_q : List Str := ["n", "d", "one", "other"]
theorem sc_law_q : FnScope N_law_q ["n", "d"] (defScope s_law_q) := ⟨rfl, rfl, rfl, by decide +kernel, rfl, by decide +kernel, by decide +kernel⟩
abbrev s_law_plus : Stmt := top 54
abbrev N_law_plus : List Str := ["one", "other"]
theorem sc_law_plus : FnScope N_law_plus ["one", "other"] (defScope s_law_plus) := ⟨rfl, rfl, rfl, by decide +kernel, rfl, by decide +kernel, by decide +kernel⟩
abbrev s_law_minus : Stmt := top 55
abbrev N_law_minus : List Str := ["one", "other"]
theorem sc_law_minus : FnScope N_law_minus ["one", "other"] (defScope s_law_minus) := ⟨rfl, rfl, rfl, by decide +kernel, rfl, by decide +kernel, by decide +kernel⟩
abbrev s_law_times : Stmt := top 56
abbrev N_law_times : List Str := ["one", "other"]
theorem sc_law_times : FnScope N_law_times ["one", "other"] (defScope s_law_times) := ⟨rfl, rfl, rfl, by decide +kernel, rfl, by decide +kernel, by decide +kernel⟩
abbrev s_law_less : Stmt := top 57
abbrev N_law_less : List Str := ["one", "other"]
theorem sc_law_less : FnScope N_law_less ["one", "other"] (defScope s_law_less) := ⟨rfl, rfl, rfl, by decide +kernel, rfl, by decide +kernel, by decide +kernel⟩
abbrev s_law_sum : Stmt := top 58
abbrev N_law_sum : List Str := ["some", "found", "each"]
theorem sc_law_sum : FnScope N_law_sum ["some"] (defScope s_law_sum) := ⟨rfl, rfl, rfl, by decide +kernel, rfl, by decide +kernel, by decide +kernel⟩
abbrev s_law_weights : Stmt := top 59
abbrev N_law_weights : List Str := ["draws", "many", "top", "found", "lap"]
theorem sc_law_weights : FnScope N_law_weights ["draws", "many", "top"] (defScope s_law_weights) := ⟨rfl, rfl, rfl, by decide +kernel, rfl, by decide +kernel, by decide +kernel⟩
abbrev s_law_shares : Stmt := top 60
abbrev N_law_shares : List Str := ["draws", "many", "found", "each"]
theorem sc_law_shares : FnScope N_law_shares ["draws", "many"] (defScope s_law_shares) := ⟨rfl, rfl, rfl, by decide +kernel, rfl, by decide +kernel, by decide +kernel⟩
abbrev s_law_chance : Stmt := top 61
abbrev N_law_chance : List Str := ["draws", "many"]
theorem sc_law_chance : FnScope N_law_chance ["draws"] (defScope s_law_chance) := ⟨rfl, rfl, rfl, by decide +kernel, rfl, by decide +kernel, by decide +kernel⟩
abbrev s_law_sr_is_ratio : Stmt := top 62
abbrev N_law_sr_is_ratio : List Str := ["value", "part"]
theorem sc_law_sr_is_ratio : FnScope N_law_sr_is_ratio ["value"] (defScope s_law_sr_is_ratio) := ⟨rfl, rfl, rfl, by decide +kernel, rfl, by decide +kernel, by decide +kernel⟩
abbrev s_law_sr_is_chance : Stmt := top 63
abbrev N_law_sr_is_chance : List Str := ["value"]
theorem sc_law_sr_is_chance : FnScope N_law_sr_is_chance ["value"] (defScope s_law_sr_is_chance) := ⟨rfl, rfl, rfl, by decide +kernel, rfl, by decide +kernel, by decide +kernel⟩
abbrev s_law_sr_pairs : Stmt := top 64
abbrev N_law_sr_pairs : List Str := ["draws", "many", "found", "lap", "under", "low", "high"]
theorem sc_law_sr_pairs : FnScope N_law_sr_pairs ["draws", "many"] (defScope s_law_sr_pairs) := ⟨rfl, rfl, rfl, by decide +kernel, rfl, by decide +kernel, by decide +kernel⟩
abbrev s_law_sr_dot : Stmt := top 65
abbrev N_law_sr_dot : List Str := ["shares", "ratios", "share", "ratio"]
theorem sc_law_sr_dot : FnScope N_law_sr_dot ["shares", "ratios"] (defScope s_law_sr_dot) := ⟨rfl, rfl, rfl, by decide +kernel, rfl, by decide +kernel, by decide +kernel⟩
abbrev s_law_sr_gap : Stmt := top 66
abbrev N_law_sr_gap : List Str := ["rates", "pair", "one", "other"]
theorem sc_law_sr_gap : FnScope N_law_sr_gap ["rates", "pair"] (defScope s_law_sr_gap) := ⟨rfl, rfl, rfl, by decide +kernel, rfl, by decide +kernel, by decide +kernel⟩
abbrev s_law_sr_are_shares : Stmt := top 67
abbrev N_law_sr_are_shares : List Str := ["value", "many", "part"]
theorem sc_law_sr_are_shares : FnScope N_law_sr_are_shares ["value", "many"] (defScope s_law_sr_are_shares) := ⟨rfl, rfl, rfl, by decide +kernel, rfl, by decide +kernel, by decide +kernel⟩
abbrev s_law_sr_reverses : Stmt := top 68
abbrev N_law_sr_reverses : List Str := ["rates", "value", "part", "share"]
theorem sc_law_sr_reverses : FnScope N_law_sr_reverses ["rates", "value"] (defScope s_law_sr_reverses) := ⟨rfl, rfl, rfl, by decide +kernel, rfl, by decide +kernel, by decide +kernel⟩
abbrev s_law_sr_apart : Stmt := top 69
abbrev N_law_sr_apart : List Str := ["one", "other", "found", "first", "second", "gap"]
theorem sc_law_sr_apart : FnScope N_law_sr_apart ["one", "other"] (defScope s_law_sr_apart) := ⟨rfl, rfl, rfl, by decide +kernel, rfl, by decide +kernel, by decide +kernel⟩
abbrev s_law_k60_near : Stmt := top 70
abbrev N_law_k60_near : List Str := ["draws", "many", "slack", "share", "far", "common", "one", "other", "rest", "found", "here", "there"]
theorem sc_law_k60_near : FnScope N_law_k60_near ["draws", "many", "slack"] (defScope s_law_k60_near) := ⟨rfl, rfl, rfl, by decide +kernel, rfl, by decide +kernel, by decide +kernel⟩
abbrev s_law_k60_right : Stmt := top 71
abbrev N_law_k60_right : List Str := ["draws", "rates", "slack", "lap", "told", "many", "gap", "pair", "one", "other"]
theorem sc_law_k60_right : FnScope N_law_k60_right ["draws", "rates", "slack"] (defScope s_law_k60_right) := ⟨rfl, rfl, rfl, by decide +kernel, rfl, by decide +kernel, by decide +kernel⟩
abbrev s_law : Stmt := top 72
abbrev N_law : List Str := ["script", "draws", "turn", "rates", "ask", "bad", "least", "slacks", "odd", "wrong", "slack"]
theorem sc_law : FnScope N_law ["script"] (defScope s_law) := ⟨rfl, rfl, rfl, by decide +kernel, rfl, by decide +kernel, by decide +kernel⟩
/-! ### what the top leaves -/
abbrev FnP (K : PySem.W.Frag) (x q : Str) (st : Stmt) (f : Addr) (fd : FuncData) : Prop := FunD K x q (defArgs st) (defBody st) (defScope st) [] [] f fd
structure Tx (K : PySem.W.Frag) (mg : Str → Option Value) : Prop where
  f_is_whole : ∃ fd, FnP K "is_whole" "is_whole" s_is_whole (He.ga K "is_whole") fd ∧ mg "is_whole" = some (.ref (He.ga K "is_whole"))
  f_is_ratio : ∃ fd, FnP K "is_ratio" "is_ratio" s_is_ratio (He.ga K "is_ratio") fd ∧ mg "is_ratio" = some (.ref (He.ga K "is_ratio"))
  f_is_chance : ∃ fd, FnP K "is_chance" "is_chance" s_is_chance (He.ga K "is_chance") fd ∧ mg "is_chance" = some (.ref (He.ga K "is_chance"))
  f_lowest : ∃ fd, FnP K "lowest" "lowest" s_lowest (He.ga K "lowest") fd ∧ mg "lowest" = some (.ref (He.ga K "lowest"))
  f_plus : ∃ fd, FnP K "plus" "plus" s_plus (He.ga K "plus") fd ∧ mg "plus" = some (.ref (He.ga K "plus"))
  f_minus : ∃ fd, FnP K "minus" "minus" s_minus (He.ga K "minus") fd ∧ mg "minus" = some (.ref (He.ga K "minus"))
  f_times : ∃ fd, FnP K "times" "times" s_times (He.ga K "times") fd ∧ mg "times" = some (.ref (He.ga K "times"))
  f_over : ∃ fd, FnP K "over" "over" s_over (He.ga K "over") fd ∧ mg "over" = some (.ref (He.ga K "over"))
  f_is_less : ∃ fd, FnP K "is_less" "is_less" s_is_less (He.ga K "is_less") fd ∧ mg "is_less" = some (.ref (He.ga K "is_less"))
  f_total : ∃ fd, FnP K "total" "total" s_total (He.ga K "total") fd ∧ mg "total" = some (.ref (He.ga K "total"))
  f_least_of : ∃ fd, FnP K "least_of" "least_of" s_least_of (He.ga K "least_of") fd ∧ mg "least_of" = some (.ref (He.ga K "least_of"))
  f_greatest_of : ∃ fd, FnP K "greatest_of" "greatest_of" s_greatest_of (He.ga K "greatest_of") fd ∧ mg "greatest_of" = some (.ref (He.ga K "greatest_of"))
  f_mean_of : ∃ fd, FnP K "mean_of" "mean_of" s_mean_of (He.ga K "mean_of") fd ∧ mg "mean_of" = some (.ref (He.ga K "mean_of"))
  f_is_pair : ∃ fd, FnP K "is_pair" "is_pair" s_is_pair (He.ga K "is_pair") fd ∧ mg "is_pair" = some (.ref (He.ga K "is_pair"))
  f_is_rates : ∃ fd, FnP K "is_rates" "is_rates" s_is_rates (He.ga K "is_rates") fd ∧ mg "is_rates" = some (.ref (He.ga K "is_rates"))
  f_need_rates : ∃ fd, FnP K "need_rates" "need_rates" s_need_rates (He.ga K "need_rates") fd ∧ mg "need_rates" = some (.ref (He.ga K "need_rates"))
  f_firsts : ∃ fd, FnP K "firsts" "firsts" s_firsts (He.ga K "firsts") fd ∧ mg "firsts" = some (.ref (He.ga K "firsts"))
  f_seconds : ∃ fd, FnP K "seconds" "seconds" s_seconds (He.ga K "seconds") fd ∧ mg "seconds" = some (.ref (He.ga K "seconds"))
  f_room_of : ∃ fd, FnP K "room_of" "room_of" s_room_of (He.ga K "room_of") fd ∧ mg "room_of" = some (.ref (He.ga K "room_of"))
  f_at_one : ∃ fd, FnP K "at_one" "at_one" s_at_one (He.ga K "at_one") fd ∧ mg "at_one" = some (.ref (He.ga K "at_one"))
  f_mixed : ∃ fd, FnP K "mixed" "mixed" s_mixed (He.ga K "mixed") fd ∧ mg "mixed" = some (.ref (He.ga K "mixed"))
  f_gap_of : ∃ fd, FnP K "gap_of" "gap_of" s_gap_of (He.ga K "gap_of") fd ∧ mg "gap_of" = some (.ref (He.ga K "gap_of"))
  f_filled : ∃ fd, FnP K "filled" "filled" s_filled (He.ga K "filled") fd ∧ mg "filled" = some (.ref (He.ga K "filled"))
  f_need_tuple : ∃ fd, FnP K "need_tuple" "need_tuple" s_need_tuple (He.ga K "need_tuple") fd ∧ mg "need_tuple" = some (.ref (He.ga K "need_tuple"))
  f_apart : ∃ fd, FnP K "apart" "apart" s_apart (He.ga K "apart") fd ∧ mg "apart" = some (.ref (He.ga K "apart"))
  f_need_slack : ∃ fd, FnP K "need_slack" "need_slack" s_need_slack (He.ga K "need_slack") fd ∧ mg "need_slack" = some (.ref (He.ga K "need_slack"))
  f_nearest_gap : ∃ fd, FnP K "nearest_gap" "nearest_gap" s_nearest_gap (He.ga K "nearest_gap") fd ∧ mg "nearest_gap" = some (.ref (He.ga K "nearest_gap"))
  f_widest_gap : ∃ fd, FnP K "widest_gap" "widest_gap" s_widest_gap (He.ga K "widest_gap") fd ∧ mg "widest_gap" = some (.ref (He.ga K "widest_gap"))
  f_widest_shares : ∃ fd, FnP K "widest_shares" "widest_shares" s_widest_shares (He.ga K "widest_shares") fd ∧ mg "widest_shares" = some (.ref (He.ga K "widest_shares"))
  f_gap_shares : ∃ fd, FnP K "gap_shares" "gap_shares" s_gap_shares (He.ga K "gap_shares") fd ∧ mg "gap_shares" = some (.ref (He.ga K "gap_shares"))
  f_least_unlike : ∃ fd, FnP K "least_unlike" "least_unlike" s_least_unlike (He.ga K "least_unlike") fd ∧ mg "least_unlike" = some (.ref (He.ga K "least_unlike"))
  f_nearly_reversing : ∃ fd, FnP K "nearly_reversing" "nearly_reversing" s_nearly_reversing (He.ga K "nearly_reversing") fd ∧ mg "nearly_reversing" = some (.ref (He.ga K "nearly_reversing"))
  f_law_begun : ∃ fd, FnP K "_law_begun" "_law_begun" s_law_begun (He.ga K "_law_begun") fd ∧ mg "_law_begun" = some (.ref (He.ga K "_law_begun"))
  f_law_blended : ∃ fd, FnP K "_law_blended" "_law_blended" s_law_blended (He.ga K "_law_blended") fd ∧ mg "_law_blended" = some (.ref (He.ga K "_law_blended"))
  f_law_draw : ∃ fd, FnP K "_law_draw" "_law_draw" s_law_draw (He.ga K "_law_draw") fd ∧ mg "_law_draw" = some (.ref (He.ga K "_law_draw"))
  f_law_pick : ∃ fd, FnP K "_law_pick" "_law_pick" s_law_pick (He.ga K "_law_pick") fd ∧ mg "_law_pick" = some (.ref (He.ga K "_law_pick"))
  f_law_caught : ∃ fd, FnP K "_law_caught" "_law_caught" s_law_caught (He.ga K "_law_caught") fd ∧ mg "_law_caught" = some (.ref (He.ga K "_law_caught"))
  f_law_is_truth : ∃ fd, FnP K "_law_is_truth" "_law_is_truth" s_law_is_truth (He.ga K "_law_is_truth") fd ∧ mg "_law_is_truth" = some (.ref (He.ga K "_law_is_truth"))
  f_law_same : ∃ fd, FnP K "_law_same" "_law_same" s_law_same (He.ga K "_law_same") fd ∧ mg "_law_same" = some (.ref (He.ga K "_law_same"))
  f_law_q : ∃ fd, FnP K "_law_q" "_law_q" s_law_q (He.ga K "_law_q") fd ∧ mg "_law_q" = some (.ref (He.ga K "_law_q"))
  f_law_plus : ∃ fd, FnP K "_law_plus" "_law_plus" s_law_plus (He.ga K "_law_plus") fd ∧ mg "_law_plus" = some (.ref (He.ga K "_law_plus"))
  f_law_minus : ∃ fd, FnP K "_law_minus" "_law_minus" s_law_minus (He.ga K "_law_minus") fd ∧ mg "_law_minus" = some (.ref (He.ga K "_law_minus"))
  f_law_times : ∃ fd, FnP K "_law_times" "_law_times" s_law_times (He.ga K "_law_times") fd ∧ mg "_law_times" = some (.ref (He.ga K "_law_times"))
  f_law_less : ∃ fd, FnP K "_law_less" "_law_less" s_law_less (He.ga K "_law_less") fd ∧ mg "_law_less" = some (.ref (He.ga K "_law_less"))
  f_law_sum : ∃ fd, FnP K "_law_sum" "_law_sum" s_law_sum (He.ga K "_law_sum") fd ∧ mg "_law_sum" = some (.ref (He.ga K "_law_sum"))
  f_law_weights : ∃ fd, FnP K "_law_weights" "_law_weights" s_law_weights (He.ga K "_law_weights") fd ∧ mg "_law_weights" = some (.ref (He.ga K "_law_weights"))
  f_law_shares : ∃ fd, FnP K "_law_shares" "_law_shares" s_law_shares (He.ga K "_law_shares") fd ∧ mg "_law_shares" = some (.ref (He.ga K "_law_shares"))
  f_law_chance : ∃ fd, FnP K "_law_chance" "_law_chance" s_law_chance (He.ga K "_law_chance") fd ∧ mg "_law_chance" = some (.ref (He.ga K "_law_chance"))
  f_law_sr_is_ratio : ∃ fd, FnP K "_law_sr_is_ratio" "_law_sr_is_ratio" s_law_sr_is_ratio (He.ga K "_law_sr_is_ratio") fd ∧ mg "_law_sr_is_ratio" = some (.ref (He.ga K "_law_sr_is_ratio"))
  f_law_sr_is_chance : ∃ fd, FnP K "_law_sr_is_chance" "_law_sr_is_chance" s_law_sr_is_chance (He.ga K "_law_sr_is_chance") fd ∧ mg "_law_sr_is_chance" = some (.ref (He.ga K "_law_sr_is_chance"))
  f_law_sr_pairs : ∃ fd, FnP K "_law_sr_pairs" "_law_sr_pairs" s_law_sr_pairs (He.ga K "_law_sr_pairs") fd ∧ mg "_law_sr_pairs" = some (.ref (He.ga K "_law_sr_pairs"))
  f_law_sr_dot : ∃ fd, FnP K "_law_sr_dot" "_law_sr_dot" s_law_sr_dot (He.ga K "_law_sr_dot") fd ∧ mg "_law_sr_dot" = some (.ref (He.ga K "_law_sr_dot"))
  f_law_sr_gap : ∃ fd, FnP K "_law_sr_gap" "_law_sr_gap" s_law_sr_gap (He.ga K "_law_sr_gap") fd ∧ mg "_law_sr_gap" = some (.ref (He.ga K "_law_sr_gap"))
  f_law_sr_are_shares : ∃ fd, FnP K "_law_sr_are_shares" "_law_sr_are_shares" s_law_sr_are_shares (He.ga K "_law_sr_are_shares") fd ∧ mg "_law_sr_are_shares" = some (.ref (He.ga K "_law_sr_are_shares"))
  f_law_sr_reverses : ∃ fd, FnP K "_law_sr_reverses" "_law_sr_reverses" s_law_sr_reverses (He.ga K "_law_sr_reverses") fd ∧ mg "_law_sr_reverses" = some (.ref (He.ga K "_law_sr_reverses"))
  f_law_sr_apart : ∃ fd, FnP K "_law_sr_apart" "_law_sr_apart" s_law_sr_apart (He.ga K "_law_sr_apart") fd ∧ mg "_law_sr_apart" = some (.ref (He.ga K "_law_sr_apart"))
  f_law_k60_near : ∃ fd, FnP K "_law_k60_near" "_law_k60_near" s_law_k60_near (He.ga K "_law_k60_near") fd ∧ mg "_law_k60_near" = some (.ref (He.ga K "_law_k60_near"))
  f_law_k60_right : ∃ fd, FnP K "_law_k60_right" "_law_k60_right" s_law_k60_right (He.ga K "_law_k60_right") fd ∧ mg "_law_k60_right" = some (.ref (He.ga K "_law_k60_right"))
  f_law : ∃ fd, FnP K "law" "law" s_law (He.ga K "law") fd ∧ mg "law" = some (.ref (He.ga K "law"))
  n_ValueError : mg "ValueError" = none
  n_abs : mg "abs" = none
  n_all : mg "all" = none
  n_bool : mg "bool" = none
  n_dict : mg "dict" = none
  n_int : mg "int" = none
  n_isinstance : mg "isinstance" = none
  n_len : mg "len" = none
  n_list : mg "list" = none
  n_min : mg "min" = none
  n_range : mg "range" = none
  n_str : mg "str" = none
  n_sum : mg "sum" = none
  n_tuple : mg "tuple" = none
  n_zip : mg "zip" = none
  c_ZERO : mg "ZERO" = some (.ref (He.ga K "ZERO")) ∧ ∀ H : Hp, SqT K H (He.ga K "ZERO") [.int 0, .int 1]
  c_ONE : mg "ONE" = some (.ref (He.ga K "ONE")) ∧ ∀ H : Hp, SqT K H (He.ga K "ONE") [.int 1, .int 1]
  c_MOST_STRATA : ∃ t, mg "MOST_STRATA" = some (.int 8 t)
  i_gcd : mg "gcd" = some (.builtin "math.gcd")
  x_JudgeError : PySem.W.excIn K (He.ga K "JudgeError") He.veBase "ValueError.__new__" = true ∧ PySem.W.keepIn K (.ref (He.ga K "JudgeError")) = true ∧ PySem.W.subIn K (.ref (He.ga K "JudgeError")) (.type "BaseException") = some true ∧ PySem.W.typeIn K (.ref (He.ga K "JudgeError")) = some (.type "type")
  g_JudgeError : mg "JudgeError" = some (.ref (He.ga K "JudgeError"))
  e_JudgeError : ExcC K (He.ga K "JudgeError")
  j_JudgeError : PySem.W.exmOne K (.ref (He.ga K "JudgeError")) (.ref (He.ga K "JudgeError")) = some true
  s_JudgeError : PySem.W.kitOne K (.ref (He.ga K "JudgeError")) (.ref (He.ga K "JudgeError")) = some true
  x_BadShares : PySem.W.excIn K (He.ga K "BadShares") He.veBase "ValueError.__new__" = true ∧ PySem.W.keepIn K (.ref (He.ga K "BadShares")) = true ∧ PySem.W.subIn K (.ref (He.ga K "BadShares")) (.type "BaseException") = some true ∧ PySem.W.typeIn K (.ref (He.ga K "BadShares")) = some (.type "type")
  g_BadShares : mg "BadShares" = some (.ref (He.ga K "BadShares"))
  e_BadShares : ExcC K (He.ga K "BadShares")
  j_BadShares : PySem.W.exmOne K (.ref (He.ga K "BadShares")) (.ref (He.ga K "JudgeError")) = some true
  s_BadShares : PySem.W.kitOne K (.ref (He.ga K "BadShares")) (.ref (He.ga K "BadShares")) = some true
  x_BadSlack : PySem.W.excIn K (He.ga K "BadSlack") He.veBase "ValueError.__new__" = true ∧ PySem.W.keepIn K (.ref (He.ga K "BadSlack")) = true ∧ PySem.W.subIn K (.ref (He.ga K "BadSlack")) (.type "BaseException") = some true ∧ PySem.W.typeIn K (.ref (He.ga K "BadSlack")) = some (.type "type")
  g_BadSlack : mg "BadSlack" = some (.ref (He.ga K "BadSlack"))
  e_BadSlack : ExcC K (He.ga K "BadSlack")
  j_BadSlack : PySem.W.exmOne K (.ref (He.ga K "BadSlack")) (.ref (He.ga K "JudgeError")) = some true
  s_BadSlack : PySem.W.kitOne K (.ref (He.ga K "BadSlack")) (.ref (He.ga K "BadSlack")) = some true
  x_BadRates : PySem.W.excIn K (He.ga K "BadRates") He.veBase "ValueError.__new__" = true ∧ PySem.W.keepIn K (.ref (He.ga K "BadRates")) = true ∧ PySem.W.subIn K (.ref (He.ga K "BadRates")) (.type "BaseException") = some true ∧ PySem.W.typeIn K (.ref (He.ga K "BadRates")) = some (.type "type")
  g_BadRates : mg "BadRates" = some (.ref (He.ga K "BadRates"))
  e_BadRates : ExcC K (He.ga K "BadRates")
  j_BadRates : PySem.W.exmOne K (.ref (He.ga K "BadRates")) (.ref (He.ga K "JudgeError")) = some true
  s_BadRates : PySem.W.kitOne K (.ref (He.ga K "BadRates")) (.ref (He.ga K "BadRates")) = some true
  x_OtherLength : PySem.W.excIn K (He.ga K "OtherLength") He.veBase "ValueError.__new__" = true ∧ PySem.W.keepIn K (.ref (He.ga K "OtherLength")) = true ∧ PySem.W.subIn K (.ref (He.ga K "OtherLength")) (.type "BaseException") = some true ∧ PySem.W.typeIn K (.ref (He.ga K "OtherLength")) = some (.type "type")
  g_OtherLength : mg "OtherLength" = some (.ref (He.ga K "OtherLength"))
  e_OtherLength : ExcC K (He.ga K "OtherLength")
  j_OtherLength : PySem.W.exmOne K (.ref (He.ga K "OtherLength")) (.ref (He.ga K "JudgeError")) = some true
  s_OtherLength : PySem.W.kitOne K (.ref (He.ga K "OtherLength")) (.ref (He.ga K "OtherLength")) = some true
/-! ### the head's facts -/
def fa : List He.Fa := [.glo "is_whole", .glo "is_ratio", .glo "is_chance", .glo "lowest", .glo "plus", .glo "minus", .glo "times", .glo "over", .glo "is_less", .glo "total", .glo "least_of", .glo "greatest_of", .glo "mean_of", .glo "is_pair", .glo "is_rates", .glo "need_rates", .glo "firsts", .glo "seconds", .glo "room_of", .glo "at_one", .glo "mixed", .glo "gap_of", .glo "filled", .glo "need_tuple", .glo "apart", .glo "need_slack", .glo "nearest_gap", .glo "widest_gap", .glo "widest_shares", .glo "gap_shares", .glo "least_unlike", .glo "nearly_reversing", .glo "_law_begun", .glo "_law_blended", .glo "_law_draw", .glo "_law_pick", .glo "_law_caught", .glo "_law_is_truth", .glo "_law_same", .glo "_law_q", .glo "_law_plus", .glo "_law_minus", .glo "_law_times", .glo "_law_less", .glo "_law_sum", .glo "_law_weights", .glo "_law_shares", .glo "_law_chance", .glo "_law_sr_is_ratio", .glo "_law_sr_is_chance", .glo "_law_sr_pairs", .glo "_law_sr_dot", .glo "_law_sr_gap", .glo "_law_sr_are_shares", .glo "_law_sr_reverses", .glo "_law_sr_apart", .glo "_law_k60_near", .glo "_law_k60_right", .glo "law", .free "ValueError", .free "abs", .free "all", .free "bool", .free "dict", .free "int", .free "isinstance", .free "len", .free "list", .free "min", .free "range", .free "str", .free "sum", .free "tuple", .free "zip", .glo "ZERO", .glo "ONE", .int "MOST_STRATA" 8, .exc "JudgeError", .glo "JudgeError", .exm "JudgeError" "JudgeError" true, .exc "BadShares", .glo "BadShares", .exm "BadShares" "JudgeError" true, .exc "BadSlack", .glo "BadSlack", .exm "BadSlack" "JudgeError" true, .exc "BadRates", .glo "BadRates", .exm "BadRates" "JudgeError" true, .exc "OtherLength", .glo "OtherLength", .exm "OtherLength" "JudgeError" true]
def d_is_whole : He.DefD := ⟨("is_whole", none), "is_whole", "is_whole", defArgs s_is_whole, defBody s_is_whole, defScope s_is_whole, [], []⟩
def d_is_ratio : He.DefD := ⟨("is_ratio", none), "is_ratio", "is_ratio", defArgs s_is_ratio, defBody s_is_ratio, defScope s_is_ratio, [], []⟩
def d_is_chance : He.DefD := ⟨("is_chance", none), "is_chance", "is_chance", defArgs s_is_chance, defBody s_is_chance, defScope s_is_chance, [], []⟩
def d_lowest : He.DefD := ⟨("lowest", none), "lowest", "lowest", defArgs s_lowest, defBody s_lowest, defScope s_lowest, [], []⟩
def d_plus : He.DefD := ⟨("plus", none), "plus", "plus", defArgs s_plus, defBody s_plus, defScope s_plus, [], []⟩
def d_minus : He.DefD := ⟨("minus", none), "minus", "minus", defArgs s_minus, defBody s_minus, defScope s_minus, [], []⟩
def d_times : He.DefD := ⟨("times", none), "times", "times", defArgs s_times, defBody s_times, defScope s_times, [], []⟩
def d_over : He.DefD := ⟨("over", none), "over", "over", defArgs s_over, defBody s_over, defScope s_over, [], []⟩
def d_is_less : He.DefD := ⟨("is_less", none), "is_less", "is_less", defArgs s_is_less, defBody s_is_less, defScope s_is_less, [], []⟩
def d_total : He.DefD := ⟨("total", none), "total", "total", defArgs s_total, defBody s_total, defScope s_total, [], []⟩
def d_least_of : He.DefD := ⟨("least_of", none), "least_of", "least_of", defArgs s_least_of, defBody s_least_of, defScope s_least_of, [], []⟩
def d_greatest_of : He.DefD := ⟨("greatest_of", none), "greatest_of", "greatest_of", defArgs s_greatest_of, defBody s_greatest_of, defScope s_greatest_of, [], []⟩
def d_mean_of : He.DefD := ⟨("mean_of", none), "mean_of", "mean_of", defArgs s_mean_of, defBody s_mean_of, defScope s_mean_of, [], []⟩
def d_is_pair : He.DefD := ⟨("is_pair", none), "is_pair", "is_pair", defArgs s_is_pair, defBody s_is_pair, defScope s_is_pair, [], []⟩
def d_is_rates : He.DefD := ⟨("is_rates", none), "is_rates", "is_rates", defArgs s_is_rates, defBody s_is_rates, defScope s_is_rates, [], []⟩
def d_need_rates : He.DefD := ⟨("need_rates", none), "need_rates", "need_rates", defArgs s_need_rates, defBody s_need_rates, defScope s_need_rates, [], []⟩
def d_firsts : He.DefD := ⟨("firsts", none), "firsts", "firsts", defArgs s_firsts, defBody s_firsts, defScope s_firsts, [], []⟩
def d_seconds : He.DefD := ⟨("seconds", none), "seconds", "seconds", defArgs s_seconds, defBody s_seconds, defScope s_seconds, [], []⟩
def d_room_of : He.DefD := ⟨("room_of", none), "room_of", "room_of", defArgs s_room_of, defBody s_room_of, defScope s_room_of, [], []⟩
def d_at_one : He.DefD := ⟨("at_one", none), "at_one", "at_one", defArgs s_at_one, defBody s_at_one, defScope s_at_one, [], []⟩
def d_mixed : He.DefD := ⟨("mixed", none), "mixed", "mixed", defArgs s_mixed, defBody s_mixed, defScope s_mixed, [], []⟩
def d_gap_of : He.DefD := ⟨("gap_of", none), "gap_of", "gap_of", defArgs s_gap_of, defBody s_gap_of, defScope s_gap_of, [], []⟩
def d_filled : He.DefD := ⟨("filled", none), "filled", "filled", defArgs s_filled, defBody s_filled, defScope s_filled, [], []⟩
def d_need_tuple : He.DefD := ⟨("need_tuple", none), "need_tuple", "need_tuple", defArgs s_need_tuple, defBody s_need_tuple, defScope s_need_tuple, [], []⟩
def d_apart : He.DefD := ⟨("apart", none), "apart", "apart", defArgs s_apart, defBody s_apart, defScope s_apart, [], []⟩
def d_need_slack : He.DefD := ⟨("need_slack", none), "need_slack", "need_slack", defArgs s_need_slack, defBody s_need_slack, defScope s_need_slack, [], []⟩
def d_nearest_gap : He.DefD := ⟨("nearest_gap", none), "nearest_gap", "nearest_gap", defArgs s_nearest_gap, defBody s_nearest_gap, defScope s_nearest_gap, [], []⟩
def d_widest_gap : He.DefD := ⟨("widest_gap", none), "widest_gap", "widest_gap", defArgs s_widest_gap, defBody s_widest_gap, defScope s_widest_gap, [], []⟩
def d_widest_shares : He.DefD := ⟨("widest_shares", none), "widest_shares", "widest_shares", defArgs s_widest_shares, defBody s_widest_shares, defScope s_widest_shares, [], []⟩
def d_gap_shares : He.DefD := ⟨("gap_shares", none), "gap_shares", "gap_shares", defArgs s_gap_shares, defBody s_gap_shares, defScope s_gap_shares, [], []⟩
def d_least_unlike : He.DefD := ⟨("least_unlike", none), "least_unlike", "least_unlike", defArgs s_least_unlike, defBody s_least_unlike, defScope s_least_unlike, [], []⟩
def d_nearly_reversing : He.DefD := ⟨("nearly_reversing", none), "nearly_reversing", "nearly_reversing", defArgs s_nearly_reversing, defBody s_nearly_reversing, defScope s_nearly_reversing, [], []⟩
def d_law_begun : He.DefD := ⟨("_law_begun", none), "_law_begun", "_law_begun", defArgs s_law_begun, defBody s_law_begun, defScope s_law_begun, [], []⟩
def d_law_blended : He.DefD := ⟨("_law_blended", none), "_law_blended", "_law_blended", defArgs s_law_blended, defBody s_law_blended, defScope s_law_blended, [], []⟩
def d_law_draw : He.DefD := ⟨("_law_draw", none), "_law_draw", "_law_draw", defArgs s_law_draw, defBody s_law_draw, defScope s_law_draw, [], []⟩
def d_law_pick : He.DefD := ⟨("_law_pick", none), "_law_pick", "_law_pick", defArgs s_law_pick, defBody s_law_pick, defScope s_law_pick, [], []⟩
def d_law_caught : He.DefD := ⟨("_law_caught", none), "_law_caught", "_law_caught", defArgs s_law_caught, defBody s_law_caught, defScope s_law_caught, [], []⟩
def d_law_is_truth : He.DefD := ⟨("_law_is_truth", none), "_law_is_truth", "_law_is_truth", defArgs s_law_is_truth, defBody s_law_is_truth, defScope s_law_is_truth, [], []⟩
def d_law_same : He.DefD := ⟨("_law_same", none), "_law_same", "_law_same", defArgs s_law_same, defBody s_law_same, defScope s_law_same, [], []⟩
def d_law_q : He.DefD := ⟨("_law_q", none), "_law_q", "_law_q", defArgs s_law_q, defBody s_law_q, defScope s_law_q, [], []⟩
def d_law_plus : He.DefD := ⟨("_law_plus", none), "_law_plus", "_law_plus", defArgs s_law_plus, defBody s_law_plus, defScope s_law_plus, [], []⟩
def d_law_minus : He.DefD := ⟨("_law_minus", none), "_law_minus", "_law_minus", defArgs s_law_minus, defBody s_law_minus, defScope s_law_minus, [], []⟩
def d_law_times : He.DefD := ⟨("_law_times", none), "_law_times", "_law_times", defArgs s_law_times, defBody s_law_times, defScope s_law_times, [], []⟩
def d_law_less : He.DefD := ⟨("_law_less", none), "_law_less", "_law_less", defArgs s_law_less, defBody s_law_less, defScope s_law_less, [], []⟩
def d_law_sum : He.DefD := ⟨("_law_sum", none), "_law_sum", "_law_sum", defArgs s_law_sum, defBody s_law_sum, defScope s_law_sum, [], []⟩
def d_law_weights : He.DefD := ⟨("_law_weights", none), "_law_weights", "_law_weights", defArgs s_law_weights, defBody s_law_weights, defScope s_law_weights, [], []⟩
def d_law_shares : He.DefD := ⟨("_law_shares", none), "_law_shares", "_law_shares", defArgs s_law_shares, defBody s_law_shares, defScope s_law_shares, [], []⟩
def d_law_chance : He.DefD := ⟨("_law_chance", none), "_law_chance", "_law_chance", defArgs s_law_chance, defBody s_law_chance, defScope s_law_chance, [], []⟩
def d_law_sr_is_ratio : He.DefD := ⟨("_law_sr_is_ratio", none), "_law_sr_is_ratio", "_law_sr_is_ratio", defArgs s_law_sr_is_ratio, defBody s_law_sr_is_ratio, defScope s_law_sr_is_ratio, [], []⟩
def d_law_sr_is_chance : He.DefD := ⟨("_law_sr_is_chance", none), "_law_sr_is_chance", "_law_sr_is_chance", defArgs s_law_sr_is_chance, defBody s_law_sr_is_chance, defScope s_law_sr_is_chance, [], []⟩
def d_law_sr_pairs : He.DefD := ⟨("_law_sr_pairs", none), "_law_sr_pairs", "_law_sr_pairs", defArgs s_law_sr_pairs, defBody s_law_sr_pairs, defScope s_law_sr_pairs, [], []⟩
def d_law_sr_dot : He.DefD := ⟨("_law_sr_dot", none), "_law_sr_dot", "_law_sr_dot", defArgs s_law_sr_dot, defBody s_law_sr_dot, defScope s_law_sr_dot, [], []⟩
def d_law_sr_gap : He.DefD := ⟨("_law_sr_gap", none), "_law_sr_gap", "_law_sr_gap", defArgs s_law_sr_gap, defBody s_law_sr_gap, defScope s_law_sr_gap, [], []⟩
def d_law_sr_are_shares : He.DefD := ⟨("_law_sr_are_shares", none), "_law_sr_are_shares", "_law_sr_are_shares", defArgs s_law_sr_are_shares, defBody s_law_sr_are_shares, defScope s_law_sr_are_shares, [], []⟩
def d_law_sr_reverses : He.DefD := ⟨("_law_sr_reverses", none), "_law_sr_reverses", "_law_sr_reverses", defArgs s_law_sr_reverses, defBody s_law_sr_reverses, defScope s_law_sr_reverses, [], []⟩
def d_law_sr_apart : He.DefD := ⟨("_law_sr_apart", none), "_law_sr_apart", "_law_sr_apart", defArgs s_law_sr_apart, defBody s_law_sr_apart, defScope s_law_sr_apart, [], []⟩
def d_law_k60_near : He.DefD := ⟨("_law_k60_near", none), "_law_k60_near", "_law_k60_near", defArgs s_law_k60_near, defBody s_law_k60_near, defScope s_law_k60_near, [], []⟩
def d_law_k60_right : He.DefD := ⟨("_law_k60_right", none), "_law_k60_right", "_law_k60_right", defArgs s_law_k60_right, defBody s_law_k60_right, defScope s_law_k60_right, [], []⟩
def d_law : He.DefD := ⟨("law", none), "law", "law", defArgs s_law, defBody s_law, defScope s_law, [], []⟩
def fn : List He.DefD := [d_is_whole, d_is_ratio, d_is_chance, d_lowest, d_plus, d_minus, d_times, d_over, d_is_less, d_total, d_least_of, d_greatest_of, d_mean_of, d_is_pair, d_is_rates, d_need_rates, d_firsts, d_seconds, d_room_of, d_at_one, d_mixed, d_gap_of, d_filled, d_need_tuple, d_apart, d_need_slack, d_nearest_gap, d_widest_gap, d_widest_shares, d_gap_shares, d_least_unlike, d_nearly_reversing, d_law_begun, d_law_blended, d_law_draw, d_law_pick, d_law_caught, d_law_is_truth, d_law_same, d_law_q, d_law_plus, d_law_minus, d_law_times, d_law_less, d_law_sum, d_law_weights, d_law_shares, d_law_chance, d_law_sr_is_ratio, d_law_sr_is_chance, d_law_sr_pairs, d_law_sr_dot, d_law_sr_gap, d_law_sr_are_shares, d_law_sr_reverses, d_law_sr_apart, d_law_k60_near, d_law_k60_right, d_law]
def ex0 (K : PySem.W.Frag) : Bool := He.tupB K "ZERO" [.int 0, .int 1]
def ex1 (K : PySem.W.Frag) : Bool := He.tupB K "ONE" [.int 1, .int 1]
def ex2 (K : PySem.W.Frag) : Bool := He.eqO (PySem.W.nsIn K mainGlobals "gcd") (some (some (.builtin "math.gcd")))
def ex3 (K : PySem.W.Frag) : Bool := He.eqO (PySem.W.findIn K (.ref (He.ga K "JudgeError")) "__getattribute__") (some (some (.builtin "BaseException.__getattribute__"))) && He.eqO (PySem.W.findIn K (.ref (He.ga K "JudgeError")) "__getattr__") (some none) && decide (PySem.W.subIn K (.ref (He.ga K "JudgeError")) (.type "BaseException") = some true) && PySem.W.hasDictIn K (He.ga K "JudgeError") && He.eqO (PySem.W.findIn K (.ref (He.ga K "JudgeError")) "__class__") (some (some (.builtin "object.__class__"))) && He.eqO (PySem.W.specialIn K (.builtin "object.__class__") "__get__") (some (some (.builtin "getset_descriptor.__get__"))) && decide (PySem.W.takesIn K (.builtin "object.__class__") = some true) && decide (PySem.W.mroIn K (He.ga K "JudgeError") (.type "object") = some true) && decide (PySem.W.kitOne K (.ref (He.ga K "JudgeError")) (.ref (He.ga K "JudgeError")) = some true)
def ex4 (K : PySem.W.Frag) : Bool := He.eqO (PySem.W.findIn K (.ref (He.ga K "BadShares")) "__getattribute__") (some (some (.builtin "BaseException.__getattribute__"))) && He.eqO (PySem.W.findIn K (.ref (He.ga K "BadShares")) "__getattr__") (some none) && decide (PySem.W.subIn K (.ref (He.ga K "BadShares")) (.type "BaseException") = some true) && PySem.W.hasDictIn K (He.ga K "BadShares") && He.eqO (PySem.W.findIn K (.ref (He.ga K "BadShares")) "__class__") (some (some (.builtin "object.__class__"))) && He.eqO (PySem.W.specialIn K (.builtin "object.__class__") "__get__") (some (some (.builtin "getset_descriptor.__get__"))) && decide (PySem.W.takesIn K (.builtin "object.__class__") = some true) && decide (PySem.W.mroIn K (He.ga K "BadShares") (.type "object") = some true) && decide (PySem.W.kitOne K (.ref (He.ga K "BadShares")) (.ref (He.ga K "BadShares")) = some true)
def ex5 (K : PySem.W.Frag) : Bool := He.eqO (PySem.W.findIn K (.ref (He.ga K "BadSlack")) "__getattribute__") (some (some (.builtin "BaseException.__getattribute__"))) && He.eqO (PySem.W.findIn K (.ref (He.ga K "BadSlack")) "__getattr__") (some none) && decide (PySem.W.subIn K (.ref (He.ga K "BadSlack")) (.type "BaseException") = some true) && PySem.W.hasDictIn K (He.ga K "BadSlack") && He.eqO (PySem.W.findIn K (.ref (He.ga K "BadSlack")) "__class__") (some (some (.builtin "object.__class__"))) && He.eqO (PySem.W.specialIn K (.builtin "object.__class__") "__get__") (some (some (.builtin "getset_descriptor.__get__"))) && decide (PySem.W.takesIn K (.builtin "object.__class__") = some true) && decide (PySem.W.mroIn K (He.ga K "BadSlack") (.type "object") = some true) && decide (PySem.W.kitOne K (.ref (He.ga K "BadSlack")) (.ref (He.ga K "BadSlack")) = some true)
def ex6 (K : PySem.W.Frag) : Bool := He.eqO (PySem.W.findIn K (.ref (He.ga K "BadRates")) "__getattribute__") (some (some (.builtin "BaseException.__getattribute__"))) && He.eqO (PySem.W.findIn K (.ref (He.ga K "BadRates")) "__getattr__") (some none) && decide (PySem.W.subIn K (.ref (He.ga K "BadRates")) (.type "BaseException") = some true) && PySem.W.hasDictIn K (He.ga K "BadRates") && He.eqO (PySem.W.findIn K (.ref (He.ga K "BadRates")) "__class__") (some (some (.builtin "object.__class__"))) && He.eqO (PySem.W.specialIn K (.builtin "object.__class__") "__get__") (some (some (.builtin "getset_descriptor.__get__"))) && decide (PySem.W.takesIn K (.builtin "object.__class__") = some true) && decide (PySem.W.mroIn K (He.ga K "BadRates") (.type "object") = some true) && decide (PySem.W.kitOne K (.ref (He.ga K "BadRates")) (.ref (He.ga K "BadRates")) = some true)
def ex7 (K : PySem.W.Frag) : Bool := He.eqO (PySem.W.findIn K (.ref (He.ga K "OtherLength")) "__getattribute__") (some (some (.builtin "BaseException.__getattribute__"))) && He.eqO (PySem.W.findIn K (.ref (He.ga K "OtherLength")) "__getattr__") (some none) && decide (PySem.W.subIn K (.ref (He.ga K "OtherLength")) (.type "BaseException") = some true) && PySem.W.hasDictIn K (He.ga K "OtherLength") && He.eqO (PySem.W.findIn K (.ref (He.ga K "OtherLength")) "__class__") (some (some (.builtin "object.__class__"))) && He.eqO (PySem.W.specialIn K (.builtin "object.__class__") "__get__") (some (some (.builtin "getset_descriptor.__get__"))) && decide (PySem.W.takesIn K (.builtin "object.__class__") = some true) && decide (PySem.W.mroIn K (He.ga K "OtherLength") (.type "object") = some true) && decide (PySem.W.kitOne K (.ref (He.ga K "OtherLength")) (.ref (He.ga K "OtherLength")) = some true)
def ex (K : PySem.W.Frag) : Bool := ex0 K && ex1 K && ex2 K && ex3 K && ex4 K && ex5 K && ex6 K && ex7 K
def tf : List He.Defn := [("law", none)]
theorem tx_mk {K : PySem.W.Frag} {h : Heap} {mg : Str → Option Value} (X : K.In h) (G : h.Ns mainGlobals mg) (c : He.SaysD fa fn K) (e : ex K = true) : Tx K mg := by
  unfold ex at e
  simp only [Bool.and_eq_true] at e
  obtain ⟨⟨⟨⟨⟨⟨⟨e0, e1⟩, e2⟩, e3⟩, e4⟩, e5⟩, e6⟩, e7⟩ := e
  have b3 := e3
  unfold ex3 at b3
  simp only [Bool.and_eq_true] at b3
  obtain ⟨⟨⟨⟨⟨⟨⟨⟨u3_1, u3_2⟩, u3_3⟩, u3_4⟩, u3_5⟩, u3_6⟩, u3_7⟩, u3_8⟩, u3_9⟩ := b3
  have b4 := e4
  unfold ex4 at b4
  simp only [Bool.and_eq_true] at b4
  obtain ⟨⟨⟨⟨⟨⟨⟨⟨u4_1, u4_2⟩, u4_3⟩, u4_4⟩, u4_5⟩, u4_6⟩, u4_7⟩, u4_8⟩, u4_9⟩ := b4
  have b5 := e5
  unfold ex5 at b5
  simp only [Bool.and_eq_true] at b5
  obtain ⟨⟨⟨⟨⟨⟨⟨⟨u5_1, u5_2⟩, u5_3⟩, u5_4⟩, u5_5⟩, u5_6⟩, u5_7⟩, u5_8⟩, u5_9⟩ := b5
  have b6 := e6
  unfold ex6 at b6
  simp only [Bool.and_eq_true] at b6
  obtain ⟨⟨⟨⟨⟨⟨⟨⟨u6_1, u6_2⟩, u6_3⟩, u6_4⟩, u6_5⟩, u6_6⟩, u6_7⟩, u6_8⟩, u6_9⟩ := b6
  have b7 := e7
  unfold ex7 at b7
  simp only [Bool.and_eq_true] at b7
  obtain ⟨⟨⟨⟨⟨⟨⟨⟨u7_1, u7_2⟩, u7_3⟩, u7_4⟩, u7_5⟩, u7_6⟩, u7_7⟩, u7_8⟩, u7_9⟩ := b7
  exact {
    f_is_whole := (let ⟨fd, F⟩ := c.def_ 0 (d := d_is_whole) rfl; ⟨fd, F, He.glo_ok X G (c.fact 0 (f := .glo "is_whole") rfl)⟩)
    f_is_ratio := (let ⟨fd, F⟩ := c.def_ 1 (d := d_is_ratio) rfl; ⟨fd, F, He.glo_ok X G (c.fact 1 (f := .glo "is_ratio") rfl)⟩)
    f_is_chance := (let ⟨fd, F⟩ := c.def_ 2 (d := d_is_chance) rfl; ⟨fd, F, He.glo_ok X G (c.fact 2 (f := .glo "is_chance") rfl)⟩)
    f_lowest := (let ⟨fd, F⟩ := c.def_ 3 (d := d_lowest) rfl; ⟨fd, F, He.glo_ok X G (c.fact 3 (f := .glo "lowest") rfl)⟩)
    f_plus := (let ⟨fd, F⟩ := c.def_ 4 (d := d_plus) rfl; ⟨fd, F, He.glo_ok X G (c.fact 4 (f := .glo "plus") rfl)⟩)
    f_minus := (let ⟨fd, F⟩ := c.def_ 5 (d := d_minus) rfl; ⟨fd, F, He.glo_ok X G (c.fact 5 (f := .glo "minus") rfl)⟩)
    f_times := (let ⟨fd, F⟩ := c.def_ 6 (d := d_times) rfl; ⟨fd, F, He.glo_ok X G (c.fact 6 (f := .glo "times") rfl)⟩)
    f_over := (let ⟨fd, F⟩ := c.def_ 7 (d := d_over) rfl; ⟨fd, F, He.glo_ok X G (c.fact 7 (f := .glo "over") rfl)⟩)
    f_is_less := (let ⟨fd, F⟩ := c.def_ 8 (d := d_is_less) rfl; ⟨fd, F, He.glo_ok X G (c.fact 8 (f := .glo "is_less") rfl)⟩)
    f_total := (let ⟨fd, F⟩ := c.def_ 9 (d := d_total) rfl; ⟨fd, F, He.glo_ok X G (c.fact 9 (f := .glo "total") rfl)⟩)
    f_least_of := (let ⟨fd, F⟩ := c.def_ 10 (d := d_least_of) rfl; ⟨fd, F, He.glo_ok X G (c.fact 10 (f := .glo "least_of") rfl)⟩)
    f_greatest_of := (let ⟨fd, F⟩ := c.def_ 11 (d := d_greatest_of) rfl; ⟨fd, F, He.glo_ok X G (c.fact 11 (f := .glo "greatest_of") rfl)⟩)
    f_mean_of := (let ⟨fd, F⟩ := c.def_ 12 (d := d_mean_of) rfl; ⟨fd, F, He.glo_ok X G (c.fact 12 (f := .glo "mean_of") rfl)⟩)
    f_is_pair := (let ⟨fd, F⟩ := c.def_ 13 (d := d_is_pair) rfl; ⟨fd, F, He.glo_ok X G (c.fact 13 (f := .glo "is_pair") rfl)⟩)
    f_is_rates := (let ⟨fd, F⟩ := c.def_ 14 (d := d_is_rates) rfl; ⟨fd, F, He.glo_ok X G (c.fact 14 (f := .glo "is_rates") rfl)⟩)
    f_need_rates := (let ⟨fd, F⟩ := c.def_ 15 (d := d_need_rates) rfl; ⟨fd, F, He.glo_ok X G (c.fact 15 (f := .glo "need_rates") rfl)⟩)
    f_firsts := (let ⟨fd, F⟩ := c.def_ 16 (d := d_firsts) rfl; ⟨fd, F, He.glo_ok X G (c.fact 16 (f := .glo "firsts") rfl)⟩)
    f_seconds := (let ⟨fd, F⟩ := c.def_ 17 (d := d_seconds) rfl; ⟨fd, F, He.glo_ok X G (c.fact 17 (f := .glo "seconds") rfl)⟩)
    f_room_of := (let ⟨fd, F⟩ := c.def_ 18 (d := d_room_of) rfl; ⟨fd, F, He.glo_ok X G (c.fact 18 (f := .glo "room_of") rfl)⟩)
    f_at_one := (let ⟨fd, F⟩ := c.def_ 19 (d := d_at_one) rfl; ⟨fd, F, He.glo_ok X G (c.fact 19 (f := .glo "at_one") rfl)⟩)
    f_mixed := (let ⟨fd, F⟩ := c.def_ 20 (d := d_mixed) rfl; ⟨fd, F, He.glo_ok X G (c.fact 20 (f := .glo "mixed") rfl)⟩)
    f_gap_of := (let ⟨fd, F⟩ := c.def_ 21 (d := d_gap_of) rfl; ⟨fd, F, He.glo_ok X G (c.fact 21 (f := .glo "gap_of") rfl)⟩)
    f_filled := (let ⟨fd, F⟩ := c.def_ 22 (d := d_filled) rfl; ⟨fd, F, He.glo_ok X G (c.fact 22 (f := .glo "filled") rfl)⟩)
    f_need_tuple := (let ⟨fd, F⟩ := c.def_ 23 (d := d_need_tuple) rfl; ⟨fd, F, He.glo_ok X G (c.fact 23 (f := .glo "need_tuple") rfl)⟩)
    f_apart := (let ⟨fd, F⟩ := c.def_ 24 (d := d_apart) rfl; ⟨fd, F, He.glo_ok X G (c.fact 24 (f := .glo "apart") rfl)⟩)
    f_need_slack := (let ⟨fd, F⟩ := c.def_ 25 (d := d_need_slack) rfl; ⟨fd, F, He.glo_ok X G (c.fact 25 (f := .glo "need_slack") rfl)⟩)
    f_nearest_gap := (let ⟨fd, F⟩ := c.def_ 26 (d := d_nearest_gap) rfl; ⟨fd, F, He.glo_ok X G (c.fact 26 (f := .glo "nearest_gap") rfl)⟩)
    f_widest_gap := (let ⟨fd, F⟩ := c.def_ 27 (d := d_widest_gap) rfl; ⟨fd, F, He.glo_ok X G (c.fact 27 (f := .glo "widest_gap") rfl)⟩)
    f_widest_shares := (let ⟨fd, F⟩ := c.def_ 28 (d := d_widest_shares) rfl; ⟨fd, F, He.glo_ok X G (c.fact 28 (f := .glo "widest_shares") rfl)⟩)
    f_gap_shares := (let ⟨fd, F⟩ := c.def_ 29 (d := d_gap_shares) rfl; ⟨fd, F, He.glo_ok X G (c.fact 29 (f := .glo "gap_shares") rfl)⟩)
    f_least_unlike := (let ⟨fd, F⟩ := c.def_ 30 (d := d_least_unlike) rfl; ⟨fd, F, He.glo_ok X G (c.fact 30 (f := .glo "least_unlike") rfl)⟩)
    f_nearly_reversing := (let ⟨fd, F⟩ := c.def_ 31 (d := d_nearly_reversing) rfl; ⟨fd, F, He.glo_ok X G (c.fact 31 (f := .glo "nearly_reversing") rfl)⟩)
    f_law_begun := (let ⟨fd, F⟩ := c.def_ 32 (d := d_law_begun) rfl; ⟨fd, F, He.glo_ok X G (c.fact 32 (f := .glo "_law_begun") rfl)⟩)
    f_law_blended := (let ⟨fd, F⟩ := c.def_ 33 (d := d_law_blended) rfl; ⟨fd, F, He.glo_ok X G (c.fact 33 (f := .glo "_law_blended") rfl)⟩)
    f_law_draw := (let ⟨fd, F⟩ := c.def_ 34 (d := d_law_draw) rfl; ⟨fd, F, He.glo_ok X G (c.fact 34 (f := .glo "_law_draw") rfl)⟩)
    f_law_pick := (let ⟨fd, F⟩ := c.def_ 35 (d := d_law_pick) rfl; ⟨fd, F, He.glo_ok X G (c.fact 35 (f := .glo "_law_pick") rfl)⟩)
    f_law_caught := (let ⟨fd, F⟩ := c.def_ 36 (d := d_law_caught) rfl; ⟨fd, F, He.glo_ok X G (c.fact 36 (f := .glo "_law_caught") rfl)⟩)
    f_law_is_truth := (let ⟨fd, F⟩ := c.def_ 37 (d := d_law_is_truth) rfl; ⟨fd, F, He.glo_ok X G (c.fact 37 (f := .glo "_law_is_truth") rfl)⟩)
    f_law_same := (let ⟨fd, F⟩ := c.def_ 38 (d := d_law_same) rfl; ⟨fd, F, He.glo_ok X G (c.fact 38 (f := .glo "_law_same") rfl)⟩)
    f_law_q := (let ⟨fd, F⟩ := c.def_ 39 (d := d_law_q) rfl; ⟨fd, F, He.glo_ok X G (c.fact 39 (f := .glo "_law_q") rfl)⟩)
    f_law_plus := (let ⟨fd, F⟩ := c.def_ 40 (d := d_law_plus) rfl; ⟨fd, F, He.glo_ok X G (c.fact 40 (f := .glo "_law_plus") rfl)⟩)
    f_law_minus := (let ⟨fd, F⟩ := c.def_ 41 (d := d_law_minus) rfl; ⟨fd, F, He.glo_ok X G (c.fact 41 (f := .glo "_law_minus") rfl)⟩)
    f_law_times := (let ⟨fd, F⟩ := c.def_ 42 (d := d_law_times) rfl; ⟨fd, F, He.glo_ok X G (c.fact 42 (f := .glo "_law_times") rfl)⟩)
    f_law_less := (let ⟨fd, F⟩ := c.def_ 43 (d := d_law_less) rfl; ⟨fd, F, He.glo_ok X G (c.fact 43 (f := .glo "_law_less") rfl)⟩)
    f_law_sum := (let ⟨fd, F⟩ := c.def_ 44 (d := d_law_sum) rfl; ⟨fd, F, He.glo_ok X G (c.fact 44 (f := .glo "_law_sum") rfl)⟩)
    f_law_weights := (let ⟨fd, F⟩ := c.def_ 45 (d := d_law_weights) rfl; ⟨fd, F, He.glo_ok X G (c.fact 45 (f := .glo "_law_weights") rfl)⟩)
    f_law_shares := (let ⟨fd, F⟩ := c.def_ 46 (d := d_law_shares) rfl; ⟨fd, F, He.glo_ok X G (c.fact 46 (f := .glo "_law_shares") rfl)⟩)
    f_law_chance := (let ⟨fd, F⟩ := c.def_ 47 (d := d_law_chance) rfl; ⟨fd, F, He.glo_ok X G (c.fact 47 (f := .glo "_law_chance") rfl)⟩)
    f_law_sr_is_ratio := (let ⟨fd, F⟩ := c.def_ 48 (d := d_law_sr_is_ratio) rfl; ⟨fd, F, He.glo_ok X G (c.fact 48 (f := .glo "_law_sr_is_ratio") rfl)⟩)
    f_law_sr_is_chance := (let ⟨fd, F⟩ := c.def_ 49 (d := d_law_sr_is_chance) rfl; ⟨fd, F, He.glo_ok X G (c.fact 49 (f := .glo "_law_sr_is_chance") rfl)⟩)
    f_law_sr_pairs := (let ⟨fd, F⟩ := c.def_ 50 (d := d_law_sr_pairs) rfl; ⟨fd, F, He.glo_ok X G (c.fact 50 (f := .glo "_law_sr_pairs") rfl)⟩)
    f_law_sr_dot := (let ⟨fd, F⟩ := c.def_ 51 (d := d_law_sr_dot) rfl; ⟨fd, F, He.glo_ok X G (c.fact 51 (f := .glo "_law_sr_dot") rfl)⟩)
    f_law_sr_gap := (let ⟨fd, F⟩ := c.def_ 52 (d := d_law_sr_gap) rfl; ⟨fd, F, He.glo_ok X G (c.fact 52 (f := .glo "_law_sr_gap") rfl)⟩)
    f_law_sr_are_shares := (let ⟨fd, F⟩ := c.def_ 53 (d := d_law_sr_are_shares) rfl; ⟨fd, F, He.glo_ok X G (c.fact 53 (f := .glo "_law_sr_are_shares") rfl)⟩)
    f_law_sr_reverses := (let ⟨fd, F⟩ := c.def_ 54 (d := d_law_sr_reverses) rfl; ⟨fd, F, He.glo_ok X G (c.fact 54 (f := .glo "_law_sr_reverses") rfl)⟩)
    f_law_sr_apart := (let ⟨fd, F⟩ := c.def_ 55 (d := d_law_sr_apart) rfl; ⟨fd, F, He.glo_ok X G (c.fact 55 (f := .glo "_law_sr_apart") rfl)⟩)
    f_law_k60_near := (let ⟨fd, F⟩ := c.def_ 56 (d := d_law_k60_near) rfl; ⟨fd, F, He.glo_ok X G (c.fact 56 (f := .glo "_law_k60_near") rfl)⟩)
    f_law_k60_right := (let ⟨fd, F⟩ := c.def_ 57 (d := d_law_k60_right) rfl; ⟨fd, F, He.glo_ok X G (c.fact 57 (f := .glo "_law_k60_right") rfl)⟩)
    f_law := (let ⟨fd, F⟩ := c.def_ 58 (d := d_law) rfl; ⟨fd, F, He.glo_ok X G (c.fact 58 (f := .glo "law") rfl)⟩)
    n_ValueError := He.free_ok X G (c.fact 59 (f := .free "ValueError") rfl)
    n_abs := He.free_ok X G (c.fact 60 (f := .free "abs") rfl)
    n_all := He.free_ok X G (c.fact 61 (f := .free "all") rfl)
    n_bool := He.free_ok X G (c.fact 62 (f := .free "bool") rfl)
    n_dict := He.free_ok X G (c.fact 63 (f := .free "dict") rfl)
    n_int := He.free_ok X G (c.fact 64 (f := .free "int") rfl)
    n_isinstance := He.free_ok X G (c.fact 65 (f := .free "isinstance") rfl)
    n_len := He.free_ok X G (c.fact 66 (f := .free "len") rfl)
    n_list := He.free_ok X G (c.fact 67 (f := .free "list") rfl)
    n_min := He.free_ok X G (c.fact 68 (f := .free "min") rfl)
    n_range := He.free_ok X G (c.fact 69 (f := .free "range") rfl)
    n_str := He.free_ok X G (c.fact 70 (f := .free "str") rfl)
    n_sum := He.free_ok X G (c.fact 71 (f := .free "sum") rfl)
    n_tuple := He.free_ok X G (c.fact 72 (f := .free "tuple") rfl)
    n_zip := He.free_ok X G (c.fact 73 (f := .free "zip") rfl)
    c_ZERO := ⟨He.glo_ok X G (c.fact 74 (f := .glo "ZERO") rfl), fun H => He.tupB_ok e0 H⟩
    c_ONE := ⟨He.glo_ok X G (c.fact 75 (f := .glo "ONE") rfl), fun H => He.tupB_ok e1 H⟩
    c_MOST_STRATA := He.int_ok X G (c.fact 76 (f := .int "MOST_STRATA" 8) rfl)
    i_gcd := PySem.W.mg_of X G (He.eqO_ok e2)
    x_JudgeError := He.exc_ok (c.fact 77 (f := .exc "JudgeError") rfl)
    g_JudgeError := He.glo_ok X G (c.fact 78 (f := .glo "JudgeError") rfl)
    e_JudgeError := ⟨He.eqO_ok u3_1, He.eqO_ok u3_2, of_decide_eq_true u3_3, u3_4, He.eqO_ok u3_5, He.eqO_ok u3_6, of_decide_eq_true u3_7, of_decide_eq_true u3_8⟩
    j_JudgeError := He.exm_ok (c.fact 79 (f := .exm "JudgeError" "JudgeError" true) rfl)
    s_JudgeError := of_decide_eq_true u3_9
    x_BadShares := He.exc_ok (c.fact 80 (f := .exc "BadShares") rfl)
    g_BadShares := He.glo_ok X G (c.fact 81 (f := .glo "BadShares") rfl)
    e_BadShares := ⟨He.eqO_ok u4_1, He.eqO_ok u4_2, of_decide_eq_true u4_3, u4_4, He.eqO_ok u4_5, He.eqO_ok u4_6, of_decide_eq_true u4_7, of_decide_eq_true u4_8⟩
    j_BadShares := He.exm_ok (c.fact 82 (f := .exm "BadShares" "JudgeError" true) rfl)
    s_BadShares := of_decide_eq_true u4_9
    x_BadSlack := He.exc_ok (c.fact 83 (f := .exc "BadSlack") rfl)
    g_BadSlack := He.glo_ok X G (c.fact 84 (f := .glo "BadSlack") rfl)
    e_BadSlack := ⟨He.eqO_ok u5_1, He.eqO_ok u5_2, of_decide_eq_true u5_3, u5_4, He.eqO_ok u5_5, He.eqO_ok u5_6, of_decide_eq_true u5_7, of_decide_eq_true u5_8⟩
    j_BadSlack := He.exm_ok (c.fact 85 (f := .exm "BadSlack" "JudgeError" true) rfl)
    s_BadSlack := of_decide_eq_true u5_9
    x_BadRates := He.exc_ok (c.fact 86 (f := .exc "BadRates") rfl)
    g_BadRates := He.glo_ok X G (c.fact 87 (f := .glo "BadRates") rfl)
    e_BadRates := ⟨He.eqO_ok u6_1, He.eqO_ok u6_2, of_decide_eq_true u6_3, u6_4, He.eqO_ok u6_5, He.eqO_ok u6_6, of_decide_eq_true u6_7, of_decide_eq_true u6_8⟩
    j_BadRates := He.exm_ok (c.fact 88 (f := .exm "BadRates" "JudgeError" true) rfl)
    s_BadRates := of_decide_eq_true u6_9
    x_OtherLength := He.exc_ok (c.fact 89 (f := .exc "OtherLength") rfl)
    g_OtherLength := He.glo_ok X G (c.fact 90 (f := .glo "OtherLength") rfl)
    e_OtherLength := ⟨He.eqO_ok u7_1, He.eqO_ok u7_2, of_decide_eq_true u7_3, u7_4, He.eqO_ok u7_5, He.eqO_ok u7_6, of_decide_eq_true u7_7, of_decide_eq_true u7_8⟩
    j_OtherLength := He.exm_ok (c.fact 91 (f := .exm "OtherLength" "JudgeError" true) rfl)
    s_OtherLength := of_decide_eq_true u7_9
  }
end K60

set_option maxHeartbeats 4000000
namespace K60
open PySem PySem.Spec PyProof.Rows L2 J Evl
variable {P : Program} {w : World} {K : PySem.W.Frag} {mg : Str → Option Value} {base : Heap}
def isW : D → Bool
  | .int _ => true
  | _ => false
theorem fd_is_whole (T : Tx K mg) : Fd CX0 P w K mg base 1 "is_whole" ["value"] (spD K 1 fun ds d => ∃ a, ds = [a] ∧ d = .bool (isW a)) := by
  obtain ⟨fd, F, hm⟩ := T.f_is_whole
  refine fd_mk F hm (ok_D F sc_is_whole rfl fun cdv A outer s H E M vs ds d D' hr hl hR S k _ => ?_) (fun _ _ _ _ _ _ us hl => match us, hl with | [_], _ => rfl)
  obtain ⟨a, rfl, rfl⟩ := hR
  have e3 : isW a = (dIsI a && !dIsB a) := by cases a <;> rfl
  rw [e3] at k
  refine sy_ret S (jd_and (k := dIsI a) (jd_isi T.n_isinstance T.n_int boot_int (S.at 0) (kit_int a)) ?_ fun h => ?_) fun v H' _ => k v H'
  · intro h; rw [h]; rfl
  · rw [h, Bool.true_and]
    exact jd_not (jd_isi T.n_isinstance T.n_bool boot_bool (S.at 0) (kit_bool a))
theorem all_map {α : Type} (f : α → Bool) (l : List α) : (l.map f).all id = l.all f := by
  induction l with
  | nil => rfl
  | cons a t ih => simp
/-- what may be asked of is_ratio -/
def Sh (a : D) : Prop := ∀ l, a = .tuple l → l.length ≤ 90000
theorem fd_is_ratio (T : Tx K mg) : Fd CX0 P w K mg base 2 "is_ratio" ["value"] (spD K 1 fun ds d => ∃ a, ds = [a] ∧ Sh a ∧ d = .bool (isR a)) := by
  have W := fd_is_whole (P := P) (w := w) (base := base) T
  obtain ⟨fd, F, hm⟩ := T.f_is_ratio
  refine fd_mk F hm (ok_D F sc_is_ratio rfl fun cdv A outer s H E M vs ds d D' hr hl hR S k _ => ?_) (fun _ _ _ _ _ _ us hl => match us, hl with | [_], _ => rfl)
  obtain ⟨a, rfl, hz, rfl⟩ := hR
  by_cases ht : dIsT a = true
  · obtain ⟨ts, rfl⟩ : ∃ ts, a = .tuple ts := by cases a <;> first | (cases ht; done) | exact ⟨_, rfl⟩
    have hz := hz ts rfl
    refine sy_when (b := !true || (!decide ((ts.length : Int) = 2) || !(ts.map isW).all id)) S (jt_or3 (jt_not (jt_val (jd_isi T.n_isinstance T.n_tuple boot_tuple (S.at 0) (kit_tuple (.tuple ts))))) (fun _ => jt_neI (jd_len T.n_len (S.at 0) (.inl rfl)) jd_int) fun _ _ => jt_not (jt_val (jd_all rfl T.n_all ?_))) (fun h H1 S1 => ?_) (fun h H1 S1 => ?_)
    · refine Jd.is (Jn.jd (sy_lcM (α := D) (g := id) S (by rw [List.map_id]; exact jw_tup (S.at 0)) (fun d => .bool (isW d)) hz (fun d ρ => ρ.set 1 (some (.dat d))) (js := [1]) (own := [("part", 1)]) (by simp) ?_ ?_ (blkOk_by (by rfl)) rfl sc_is_ratio.nd)) (by rw [List.map_map]; rfl)
      · rintro _ d ⟨s, H, C, cl, fp, rfl⟩ _
        exact jg_name 1 sc_is_ratio.nd
      · rintro i d _ B' M' σ' H' h1 ⟨s, H, C, cl, fp, rfl⟩ S'
        exact jd_call W (hr.mono (by decide)) (ja_cons (S'.at 1) ja_nil) rfl ⟨_, rfl, rfl⟩
    · refine sy_ret S1 (d := .bool (isR (.tuple ts))) (jd_bl.is ?_) fun v H' x _ p => k v H' x p
      congr 1
      cases hq : isR (.tuple ts) with
      | false => rfl
      | true =>
        match ts, hq with
        | [.int n, .int m], hq => simp [isW] at h
    · have : ∃ n m : Int, ts = [.int n, .int m] := by
        match ts, h with
        | [a, b], h =>
          have h2 : isW a = true ∧ isW b = true := by simpa using h
          obtain ⟨h3, h4⟩ := h2
          cases a <;> first | (cases h3; done) | (cases b <;> first | (cases h4; done) | exact ⟨_, _, rfl⟩)
        | [], h => simp at h
        | [_], h => simp at h
        | _ :: _ :: _ :: _, h => simp at h; omega
      obtain ⟨n, m, rfl⟩ := this
      refine sy_ret S1 (d := .bool (isR (.tuple [.int n, .int m]))) (jd_and (k := decide (0 < m)) (jd_gt (jd_ixT (n := 1) (S1.at 0) jd_int rfl rfl) jd_int) (fun h => ?_) fun h => ?_) fun v H' x _ p => k v H' x p
      · simp [isR, h]
      · refine (jd_eqI (jd_gcd T.i_gcd (jd_ixT (n := 0) (S1.at 0) jd_int rfl rfl) (jd_ixT (n := 1) (S1.at 0) jd_int rfl rfl)) jd_int).is ?_
        simp only [isR, h, Bool.true_and]
  · have ht : dIsT a = false := by simpa using ht
    refine sy_when (b := !(dIsT a) || (true || true)) S (jt_or3 (jt_not (jt_val (jd_isi T.n_isinstance T.n_tuple boot_tuple (S.at 0) (kit_tuple a)))) (fun z => ?_) fun z _ => ?_) (fun h H1 S1 => ?_) (fun h H1 S1 => ?_)
    · rw [ht] at z; cases z
    · rw [ht] at z; cases z
    · refine sy_ret S1 (d := .bool (isR a)) (jd_bl.is ?_) fun v H' x _ p => k v H' x p
      congr 1
      cases a <;> first | rfl | cases ht
    · rw [ht] at h; cases h
theorem isC_no {a : D} (h : isR a = false) : isC a = false := by unfold isC; rw [h]; rfl
theorem fd_is_chance (T : Tx K mg) : Fd CX0 P w K mg base 3 "is_chance" ["value"] (spD K 1 fun ds d => ∃ a, ds = [a] ∧ Sh a ∧ d = .bool (isC a)) := by
  have W := fd_is_ratio (P := P) (w := w) (base := base) T
  obtain ⟨fd, F, hm⟩ := T.f_is_chance
  refine fd_mk F hm (ok_D F sc_is_chance rfl fun cdv A outer s H E M vs ds d D' hr hl hR S k _ => ?_) (fun _ _ _ _ _ _ us hl => match us, hl with | [_], _ => rfl)
  obtain ⟨a, rfl, hz, rfl⟩ := hR
  refine sy_ret S (jd_and (k := isR a) (jd_call W (hr.mono (by decide)) (ja_cons (S.at 0) ja_nil) rfl ⟨_, rfl, hz, rfl⟩) (fun h => by rw [isC_no h]) fun h => ?_) fun v H' x _ p => k v H' x p
  obtain ⟨r, rfl⟩ := isR_of h
  refine Jd.is (jd_chain op_le op_le jd_int (jd_ixT (n := 0) (S.at 0) jd_int rfl rfl) (jd_ixT (n := 1) (S.at 0) jd_int rfl rfl) (by with_unfolding_all rfl)) ?_
  unfold isC
  rw [isR_dR, Bool.true_and]
/-! ### ratios -/
def Bt (b : Nat) (x : Int) : Prop := x.natAbs < 2 ^ b
theorem fd_lowest (T : Tx K mg) : Fd CX0 P w K mg base 1 "lowest" ["n", "d"] (spD K 2 fun ds r => ∃ n d : Int, ds = [.int n, .int d] ∧ 0 < d ∧ Bt 9000 d ∧ r = dR (Rat.divInt n d)) := by
  obtain ⟨fd, F, hm⟩ := T.f_lowest
  refine fd_mk F hm (ok_D F sc_lowest rfl fun cdv A outer s H E M vs ds d D' hr hl hR S k _ => ?_) (fun _ _ _ _ _ _ us hl => match us, hl with | [_, _], _ => rfl)
  obtain ⟨n, m, rfl, h0, hb, rfl⟩ := hR
  have e : (decide (0 < m)) = true := decide_eq_true h0
  refine sy_set 2 S (d := .int ((Nat.gcd n.natAbs m.natAbs : Nat) : Int)) (jd_if (jt_gt (S.at 1) jd_int) (fun _ => jd_gcd T.i_gcd (S.at 0) (S.at 1)) fun h => ?_) (fun σ1 H1 S1 => ?_) sc_lowest.nd
  · rw [e] at h; cases h
  · have hg : 0 < Nat.gcd n.natAbs m.natAbs := Nat.gcd_pos_of_pos_right _ (by omega)
    have hle : Nat.gcd n.natAbs m.natAbs ≤ m.natAbs := Nat.gcd_le_right _ (by omega)
    have hc : CDivW n ((Nat.gcd n.natAbs m.natAbs : Nat) : Int) := wide_div (by omega) (b := 9000) (by show ((Nat.gcd n.natAbs m.natAbs : Nat) : Int).natAbs < _; unfold Bt at hb; omega) (by decide) (by decide)
    have hc2 : CDivW m ((Nat.gcd n.natAbs m.natAbs : Nat) : Int) := hc
    refine sy_ret S1 (Jd.is (jd_tup (ja_cons (jd_div (S1.at 0) (S1.at 2) hc) (ja_cons (jd_div (S1.at 1) (S1.at 2) hc2) ja_nil))) (low_div h0)) fun v H' x _ p => k v H' x p
theorem fd_law_q (T : Tx K mg) : Fd CX0 P w K mg base 1 "_law_q" ["n", "d"] (spD K 2 fun ds r => ∃ n d : Int, ds = [.int n, .int d] ∧ 0 < d ∧ Bt 9000 d ∧ r = dR (Rat.divInt n d)) := by
  obtain ⟨fd, F, hm⟩ := T.f_law_q
  refine fd_mk F hm (ok_D F sc_law_q rfl fun cdv A outer s H E M vs ds d D' hr hl hR S k _ => ?_) (fun _ _ _ _ _ _ us hl => match us, hl with | [_, _], _ => rfl)
  obtain ⟨n, m, rfl, h0, hb, rfl⟩ := hR
  refine sy_par 2 3 S (jd_abs T.n_abs (S.at 0)) (jd_abs T.n_abs (S.at 1)) (fun σ1 H1 S1 => ?_) rfl sc_law_q.nd (by decide) rfl
  refine sy_while S1 (fun b ρ' μ' => μ' = [] ∧ ∃ a : Nat, Nat.gcd a b = Nat.gcd n.natAbs m.natAbs ∧ ρ' = [some (.dat (.int n)), some (.dat (.int m)), some (.dat (.int (a : Int))), some (.dat (.int (b : Int)))]) m.natAbs ⟨rfl, _, rfl, rfl⟩ ?_ PassesOwn.never
  rintro b ρ' μ' σ' H' ⟨rfl, a, hg, rfl⟩ S2
  refine ⟨_, jt_gt (S2.at 3) jd_int, fun hp H3 S3 => ?_, fun hp H3 S3 => ?_⟩
  · have hb0 : 0 < b := by have := of_decide_eq_true hp; omega
    refine sy_par 2 3 S3 (S3.at 3) (jd_mod (jd_int1 T.n_int (S3.at 2)) (S3.at 3) (by omega)) (fun σ4 H4 S4 => tB_nil ?_) rfl sc_law_q.nd (by decide) rfl
    refine ⟨a % b, _, _, Nat.mod_lt _ hb0, ⟨rfl, b, ?_, ?_⟩, S4⟩
    · rw [← hg, Nat.gcd_comm a b, Nat.gcd_rec b a, Nat.gcd_comm]
    · rfl
  · have hb0 : b = 0 := by have := of_decide_eq_false hp; omega
    subst hb0
    rw [Nat.gcd_zero_right] at hg
    subst hg
    have e : (decide (0 < m)) = true := decide_eq_true h0
    have hg : 0 < Nat.gcd n.natAbs m.natAbs := Nat.gcd_pos_of_pos_right _ (by omega)
    have hle : Nat.gcd n.natAbs m.natAbs ≤ m.natAbs := Nat.gcd_le_right _ (by omega)
    have hc : CDivW n ((Nat.gcd n.natAbs m.natAbs : Nat) : Int) := wide_div (by omega) (b := 9000) (by show ((Nat.gcd n.natAbs m.natAbs : Nat) : Int).natAbs < _; unfold Bt at hb; omega) (by decide) (by decide)
    have hc2 : CDivW m ((Nat.gcd n.natAbs m.natAbs : Nat) : Int) := hc
    refine sy_ret S3 (jd_if (jt_gt (S3.at 1) jd_int) (fun _ => Jd.is (jd_tup (ja_cons (jd_div (S3.at 0) (S3.at 2) hc) (ja_cons (jd_div (S3.at 1) (S3.at 2) hc2) ja_nil))) (low_div h0)) fun h => ?_) fun v H' x _ p => k v H' x p
    rw [e] at h; cases h
/-- of two ratios -/
def opS (f : Rat → Rat → Rat) : List D → D → Prop := fun ds r => ∃ a b : Rat, ds = [dR a, dR b] ∧ Bz 4000 a ∧ Bz 4000 b ∧ r = dR (f a b)
theorem mulW {x y : Int} (h1 : Bt 4000 x) (h2 : Bt 4000 y) : CMulW x y := wide_mul h1 h2 (by decide) (by decide) (by decide)
theorem bzn {r : Rat} (h : Bz 4000 r) : Bt 4000 r.num := h.1
theorem bzd {r : Rat} (h : Bz 4000 r) : Bt 4000 (r.den : Int) := h.2
theorem up9 {x y : Int} (h1 : Bt 4000 x) (h2 : Bt 4000 y) : Bt 9000 (x * y) := Nat.lt_of_lt_of_le (wide_lt h1 h2) (Nat.pow_le_pow_right (by decide) (by decide))
theorem fd_plus (T : Tx K mg) : Fd CX0 P w K mg base 2 "plus" ["one", "other"] (spD K 2 (opS fun a b => a + b)) := by
  have W := fd_lowest (P := P) (w := w) (base := base) T
  obtain ⟨fd, F, hm⟩ := T.f_plus
  refine fd_mk F hm (ok_D F sc_plus rfl fun cdv A outer s H E M vs ds d D' hr hl hR S k _ => ?_) (fun _ _ _ _ _ _ us hl => match us, hl with | [_, _], _ => rfl)
  obtain ⟨a, b, rfl, ha, hb, rfl⟩ := hR
  exact sy_ret S (jd_call W (hr.mono (by decide)) (ja_cons (jd_add (jd_mul (jd_ixT (n := 0) (S.at 0) jd_int rfl rfl) (jd_ixT (n := 1) (S.at 1) jd_int rfl rfl) (mulW (bzn ha) (bzd hb))) (jd_mul (jd_ixT (n := 0) (S.at 1) jd_int rfl rfl) (jd_ixT (n := 1) (S.at 0) jd_int rfl rfl) (mulW (bzn hb) (bzd ha))))
    (ja_cons (jd_mul (jd_ixT (n := 1) (S.at 0) jd_int rfl rfl) (jd_ixT (n := 1) (S.at 1) jd_int rfl rfl) (mulW (bzd ha) (bzd hb))) ja_nil)) rfl ⟨_, _, rfl, Int.mul_pos (den_pos a) (den_pos b), up9 (bzd ha) (bzd hb), by rw [divInt_add]⟩) fun v H' x _ p => k v H' x p
theorem fd_minus (T : Tx K mg) : Fd CX0 P w K mg base 2 "minus" ["one", "other"] (spD K 2 (opS fun a b => a - b)) := by
  have W := fd_lowest (P := P) (w := w) (base := base) T
  obtain ⟨fd, F, hm⟩ := T.f_minus
  refine fd_mk F hm (ok_D F sc_minus rfl fun cdv A outer s H E M vs ds d D' hr hl hR S k _ => ?_) (fun _ _ _ _ _ _ us hl => match us, hl with | [_, _], _ => rfl)
  obtain ⟨a, b, rfl, ha, hb, rfl⟩ := hR
  exact sy_ret S (jd_call W (hr.mono (by decide)) (ja_cons (jd_sub (jd_mul (jd_ixT (n := 0) (S.at 0) jd_int rfl rfl) (jd_ixT (n := 1) (S.at 1) jd_int rfl rfl) (mulW (bzn ha) (bzd hb))) (jd_mul (jd_ixT (n := 0) (S.at 1) jd_int rfl rfl) (jd_ixT (n := 1) (S.at 0) jd_int rfl rfl) (mulW (bzn hb) (bzd ha))))
    (ja_cons (jd_mul (jd_ixT (n := 1) (S.at 0) jd_int rfl rfl) (jd_ixT (n := 1) (S.at 1) jd_int rfl rfl) (mulW (bzd ha) (bzd hb))) ja_nil)) rfl ⟨_, _, rfl, Int.mul_pos (den_pos a) (den_pos b), up9 (bzd ha) (bzd hb), by rw [divInt_sub]⟩) fun v H' x _ p => k v H' x p
theorem fd_times (T : Tx K mg) : Fd CX0 P w K mg base 2 "times" ["one", "other"] (spD K 2 (opS fun a b => a * b)) := by
  have W := fd_lowest (P := P) (w := w) (base := base) T
  obtain ⟨fd, F, hm⟩ := T.f_times
  refine fd_mk F hm (ok_D F sc_times rfl fun cdv A outer s H E M vs ds d D' hr hl hR S k _ => ?_) (fun _ _ _ _ _ _ us hl => match us, hl with | [_, _], _ => rfl)
  obtain ⟨a, b, rfl, ha, hb, rfl⟩ := hR
  exact sy_ret S (jd_call W (hr.mono (by decide)) (ja_cons (jd_mul (jd_ixT (n := 0) (S.at 0) jd_int rfl rfl) (jd_ixT (n := 0) (S.at 1) jd_int rfl rfl) (mulW (bzn ha) (bzn hb)))
    (ja_cons (jd_mul (jd_ixT (n := 1) (S.at 0) jd_int rfl rfl) (jd_ixT (n := 1) (S.at 1) jd_int rfl rfl) (mulW (bzd ha) (bzd hb))) ja_nil)) rfl ⟨_, _, rfl, Int.mul_pos (den_pos a) (den_pos b), up9 (bzd ha) (bzd hb), by rw [divInt_mul]⟩) fun v H' x _ p => k v H' x p
theorem fd_over (T : Tx K mg) : Fd CX0 P w K mg base 2 "over" ["one", "other"] (spD K 2 fun ds r => ∃ a b : Rat, ds = [dR a, dR b] ∧ Bz 4000 a ∧ Bz 4000 b ∧ 0 < b ∧ r = dR (a / b)) := by
  have W := fd_lowest (P := P) (w := w) (base := base) T
  obtain ⟨fd, F, hm⟩ := T.f_over
  refine fd_mk F hm (ok_D F sc_over rfl fun cdv A outer s H E M vs ds d D' hr hl hR S k _ => ?_) (fun _ _ _ _ _ _ us hl => match us, hl with | [_, _], _ => rfl)
  obtain ⟨a, b, rfl, ha, hb, h0, rfl⟩ := hR
  exact sy_ret S (jd_call W (hr.mono (by decide)) (ja_cons (jd_mul (jd_ixT (n := 0) (S.at 0) jd_int rfl rfl) (jd_ixT (n := 1) (S.at 1) jd_int rfl rfl) (mulW (bzn ha) (bzd hb)))
    (ja_cons (jd_mul (jd_ixT (n := 1) (S.at 0) jd_int rfl rfl) (jd_ixT (n := 0) (S.at 1) jd_int rfl rfl) (mulW (bzd ha) (bzn hb))) ja_nil)) rfl ⟨_, _, rfl, Int.mul_pos (den_pos a) (num_pos.mpr h0), up9 (bzd ha) (bzn hb), by rw [divInt_div]⟩) fun v H' x _ p => k v H' x p
theorem fd_is_less (T : Tx K mg) : Fd CX0 P w K mg base 1 "is_less" ["one", "other"] (spD K 2 fun ds r => ∃ a b : Rat, ds = [dR a, dR b] ∧ Bz 4000 a ∧ Bz 4000 b ∧ r = .bool (decide (a < b))) := by
  obtain ⟨fd, F, hm⟩ := T.f_is_less
  refine fd_mk F hm (ok_D F sc_is_less rfl fun cdv A outer s H E M vs ds d D' hr hl hR S k _ => ?_) (fun _ _ _ _ _ _ us hl => match us, hl with | [_, _], _ => rfl)
  obtain ⟨a, b, rfl, ha, hb, rfl⟩ := hR
  exact sy_ret S (Jd.is (jd_lt (jd_mul (jd_ixT (n := 0) (S.at 0) jd_int rfl rfl) (jd_ixT (n := 1) (S.at 1) jd_int rfl rfl) (mulW (bzn ha) (bzd hb))) (jd_mul (jd_ixT (n := 0) (S.at 1) jd_int rfl rfl) (jd_ixT (n := 1) (S.at 0) jd_int rfl rfl) (mulW (bzn hb) (bzd ha)))) (by rw [dec_lt])) fun v H' x _ p => k v H' x p
theorem fd_law_plus (T : Tx K mg) : Fd CX0 P w K mg base 2 "_law_plus" ["one", "other"] (spD K 2 (opS fun a b => a + b)) := by
  have W := fd_law_q (P := P) (w := w) (base := base) T
  obtain ⟨fd, F, hm⟩ := T.f_law_plus
  refine fd_mk F hm (ok_D F sc_law_plus rfl fun cdv A outer s H E M vs ds d D' hr hl hR S k _ => ?_) (fun _ _ _ _ _ _ us hl => match us, hl with | [_, _], _ => rfl)
  obtain ⟨a, b, rfl, ha, hb, rfl⟩ := hR
  exact sy_ret S (jd_call W (hr.mono (by decide)) (ja_cons (jd_add (jd_mul (jd_ixT (n := 0) (S.at 0) jd_int rfl rfl) (jd_ixT (n := 1) (S.at 1) jd_int rfl rfl) (mulW (bzn ha) (bzd hb))) (jd_mul (jd_ixT (n := 0) (S.at 1) jd_int rfl rfl) (jd_ixT (n := 1) (S.at 0) jd_int rfl rfl) (mulW (bzn hb) (bzd ha))))
    (ja_cons (jd_mul (jd_ixT (n := 1) (S.at 0) jd_int rfl rfl) (jd_ixT (n := 1) (S.at 1) jd_int rfl rfl) (mulW (bzd ha) (bzd hb))) ja_nil)) rfl ⟨_, _, rfl, Int.mul_pos (den_pos a) (den_pos b), up9 (bzd ha) (bzd hb), by rw [divInt_add]⟩) fun v H' x _ p => k v H' x p
theorem fd_law_minus (T : Tx K mg) : Fd CX0 P w K mg base 2 "_law_minus" ["one", "other"] (spD K 2 (opS fun a b => a - b)) := by
  have W := fd_law_q (P := P) (w := w) (base := base) T
  obtain ⟨fd, F, hm⟩ := T.f_law_minus
  refine fd_mk F hm (ok_D F sc_law_minus rfl fun cdv A outer s H E M vs ds d D' hr hl hR S k _ => ?_) (fun _ _ _ _ _ _ us hl => match us, hl with | [_, _], _ => rfl)
  obtain ⟨a, b, rfl, ha, hb, rfl⟩ := hR
  exact sy_ret S (jd_call W (hr.mono (by decide)) (ja_cons (jd_sub (jd_mul (jd_ixT (n := 0) (S.at 0) jd_int rfl rfl) (jd_ixT (n := 1) (S.at 1) jd_int rfl rfl) (mulW (bzn ha) (bzd hb))) (jd_mul (jd_ixT (n := 0) (S.at 1) jd_int rfl rfl) (jd_ixT (n := 1) (S.at 0) jd_int rfl rfl) (mulW (bzn hb) (bzd ha))))
    (ja_cons (jd_mul (jd_ixT (n := 1) (S.at 0) jd_int rfl rfl) (jd_ixT (n := 1) (S.at 1) jd_int rfl rfl) (mulW (bzd ha) (bzd hb))) ja_nil)) rfl ⟨_, _, rfl, Int.mul_pos (den_pos a) (den_pos b), up9 (bzd ha) (bzd hb), by rw [divInt_sub]⟩) fun v H' x _ p => k v H' x p
theorem fd_law_times (T : Tx K mg) : Fd CX0 P w K mg base 2 "_law_times" ["one", "other"] (spD K 2 (opS fun a b => a * b)) := by
  have W := fd_law_q (P := P) (w := w) (base := base) T
  obtain ⟨fd, F, hm⟩ := T.f_law_times
  refine fd_mk F hm (ok_D F sc_law_times rfl fun cdv A outer s H E M vs ds d D' hr hl hR S k _ => ?_) (fun _ _ _ _ _ _ us hl => match us, hl with | [_, _], _ => rfl)
  obtain ⟨a, b, rfl, ha, hb, rfl⟩ := hR
  exact sy_ret S (jd_call W (hr.mono (by decide)) (ja_cons (jd_mul (jd_ixT (n := 0) (S.at 0) jd_int rfl rfl) (jd_ixT (n := 0) (S.at 1) jd_int rfl rfl) (mulW (bzn ha) (bzn hb)))
    (ja_cons (jd_mul (jd_ixT (n := 1) (S.at 0) jd_int rfl rfl) (jd_ixT (n := 1) (S.at 1) jd_int rfl rfl) (mulW (bzd ha) (bzd hb))) ja_nil)) rfl ⟨_, _, rfl, Int.mul_pos (den_pos a) (den_pos b), up9 (bzd ha) (bzd hb), by rw [divInt_mul]⟩) fun v H' x _ p => k v H' x p
theorem fd_law_less (T : Tx K mg) : Fd CX0 P w K mg base 1 "_law_less" ["one", "other"] (spD K 2 fun ds r => ∃ a b : Rat, ds = [dR a, dR b] ∧ Bz 4000 a ∧ Bz 4000 b ∧ r = .bool (decide (a < b))) := by
  obtain ⟨fd, F, hm⟩ := T.f_law_less
  refine fd_mk F hm (ok_D F sc_law_less rfl fun cdv A outer s H E M vs ds d D' hr hl hR S k _ => ?_) (fun _ _ _ _ _ _ us hl => match us, hl with | [_, _], _ => rfl)
  obtain ⟨a, b, rfl, ha, hb, rfl⟩ := hR
  exact sy_ret S (Jd.is (jd_lt (jd_mul (jd_ixT (n := 0) (S.at 0) jd_int rfl rfl) (jd_ixT (n := 1) (S.at 1) jd_int rfl rfl) (mulW (bzn ha) (bzd hb))) (jd_mul (jd_ixT (n := 0) (S.at 1) jd_int rfl rfl) (jd_ixT (n := 1) (S.at 0) jd_int rfl rfl) (mulW (bzn hb) (bzd ha)))) (by rw [dec_lt])) fun v H' x _ p => k v H' x p
end K60

set_option maxHeartbeats 4000000
namespace K60
open PySem PySem.Spec PyProof.Rows L2 J Evl
variable {P : Program} {w : World} {K : PySem.W.Frag} {mg : Str → Option Value} {base : Heap}
theorem jw_seq {X : Cx} {M : List Addr} {tg a : Expr} {σ : L2.St} {H : Hp} {b : Bool} {ds : List D} (h : Jd X M a σ H (seqD b ds)) : Jw X M tg a σ H ds := by
  cases b
  · exact jw_lst h
  · exact jw_tup h
/-- sums of beginnings, small enough -/
def SumOk (qs : List Rat) : Prop := (∀ x ∈ qs, Bz 4000 x) ∧ ∀ i, Bz 4000 (qs.take i).sum
theorem zero_dR : dR 0 = .tuple [.int 0, .int 1] := rfl
theorem fd_total (T : Tx K mg) : Fd CX0 P w K mg base 3 "total" ["ratios"] (spD K 1 fun ds r => ∃ (b : Bool) (qs : List Rat), ds = [seqD b (qs.map dR)] ∧ SumOk qs ∧ r = dR qs.sum) := by
  have W := fd_plus (P := P) (w := w) (base := base) T
  obtain ⟨fd, F, hm⟩ := T.f_total
  refine fd_mk F hm (ok_D F sc_total rfl fun cdv A outer s H E M vs ds d D' hr hl hR S k _ => ?_) (fun _ _ _ _ _ _ us hl => match us, hl with | [_], _ => rfl)
  obtain ⟨b, qs, rfl, hs, rfl⟩ := hR
  refine sy_set 1 S (d := dR 0) (jd_glob T.c_ZERO.1 (v := .ref (He.ga K "ZERO")) rfl (.tup (T.c_ZERO.2 _) (.cons (.int 0) (.cons (.int 1) .nil)))) (fun σ1 H1 S1 => ?_) sc_total.nd
  refine sy_for S1 (jw_seq (b := b) (S1.at 0)) (fun d ρ => ρ.set 2 (some (.dat d))) (js := [2]) (fun d ρ' _ => jg_name 2 sc_total.nd)
    (fun i ρ' μ' => μ' = [] ∧ ∃ o, ρ' = [some (.dat (seqD b (qs.map dR))), some (.dat (dR (qs.take i).sum)), o]) ⟨rfl, _, rfl⟩ ?_ ?_ PassesOwn.never rfl
  · rintro i d ρ' μ' σ' H' B' hd ⟨rfl, o, rfl⟩ hB S2
    rw [List.getElem?_map] at hd
    obtain ⟨q, hq, rfl⟩ := Option.map_eq_some_iff.mp hd
    refine sy_set 1 S2 (jd_call W (hr.mono (by decide)) (ja_cons (S2.at 1) (ja_cons (S2.at 2) ja_nil)) rfl ⟨_, q, rfl, hs.2 i, hs.1 q (List.mem_of_getElem? hq), rfl⟩) (fun σ3 H3 S3 => tB_nil ?_) sc_total.nd
    exact ⟨_, _, ⟨rfl, _, by rw [rsum_take hq]; rfl⟩, S3⟩
  · rintro ρ' μ' σ' H' ⟨rfl, o, rfl⟩ S2
    have e : qs.take (qs.map dR).length = qs := by rw [List.length_map, List.take_length]
    rw [e] at S2
    exact sy_ret S2 (S2.at 1) fun v H' x _ p => k v H' x p
theorem fd_law_sum (T : Tx K mg) : Fd CX0 P w K mg base 3 "_law_sum" ["some"] (spD K 1 fun ds r => ∃ (b : Bool) (qs : List Rat), ds = [seqD b (qs.map dR)] ∧ SumOk qs ∧ r = dR qs.sum) := by
  have W := fd_law_plus (P := P) (w := w) (base := base) T
  obtain ⟨fd, F, hm⟩ := T.f_law_sum
  refine fd_mk F hm (ok_D F sc_law_sum rfl fun cdv A outer s H E M vs ds d D' hr hl hR S k _ => ?_) (fun _ _ _ _ _ _ us hl => match us, hl with | [_], _ => rfl)
  obtain ⟨b, qs, rfl, hs, rfl⟩ := hR
  refine sy_set 1 S (d := dR 0) (jd_tup (ja_cons jd_int (ja_cons jd_int ja_nil))) (fun σ1 H1 S1 => ?_) sc_law_sum.nd
  refine sy_for S1 (jw_seq (b := b) (S1.at 0)) (fun d ρ => ρ.set 2 (some (.dat d))) (js := [2]) (fun d ρ' _ => jg_name 2 sc_law_sum.nd)
    (fun i ρ' μ' => μ' = [] ∧ ∃ o, ρ' = [some (.dat (seqD b (qs.map dR))), some (.dat (dR (qs.take i).sum)), o]) ⟨rfl, _, rfl⟩ ?_ ?_ PassesOwn.never rfl
  · rintro i d ρ' μ' σ' H' B' hd ⟨rfl, o, rfl⟩ hB S2
    rw [List.getElem?_map] at hd
    obtain ⟨q, hq, rfl⟩ := Option.map_eq_some_iff.mp hd
    refine sy_set 1 S2 (jd_call W (hr.mono (by decide)) (ja_cons (S2.at 1) (ja_cons (S2.at 2) ja_nil)) rfl ⟨_, q, rfl, hs.2 i, hs.1 q (List.mem_of_getElem? hq), rfl⟩) (fun σ3 H3 S3 => tB_nil ?_) sc_law_sum.nd
    exact ⟨_, _, ⟨rfl, _, by rw [rsum_take hq]; rfl⟩, S3⟩
  · rintro ρ' μ' σ' H' ⟨rfl, o, rfl⟩ S2
    have e : qs.take (qs.map dR).length = qs := by rw [List.length_map, List.take_length]
    rw [e] at S2
    exact sy_ret S2 (S2.at 1) fun v H' x _ p => k v H' x p
def minF (f e : Rat) : Rat := if e < f then e else f
def maxF (f e : Rat) : Rat := if f < e then e else f
def leastR : List Rat → Rat
  | [] => 0
  | q :: qs => qs.foldl minF q
def greatR : List Rat → Rat
  | [] => 0
  | q :: qs => qs.foldl maxF q
theorem fold_take {α β : Type} (f : β → α → β) (b : β) {l : List α} {i : Nat} {x : α} (h : l[i]? = some x) : (l.take (i + 1)).foldl f b = f ((l.take i).foldl f b) x := by
  rw [List.take_add_one, h, List.foldl_append]; rfl
theorem fold_bz {f : Rat → Rat → Rat} (hf : ∀ a b, f a b = a ∨ f a b = b) {b : Nat} : ∀ {l : List Rat} {q : Rat}, Bz b q → (∀ x ∈ l, Bz b x) → Bz b (l.foldl f q)
  | [], _, h, _ => h
  | x :: l, q, h, hl => fold_bz hf (l := l) (q := f q x) (by rcases hf q x with e | e <;> rw [e]; exact h; exact hl x List.mem_cons_self) fun y hy => hl y (List.mem_cons_of_mem _ hy)
theorem minF_or (a b : Rat) : minF a b = a ∨ minF a b = b := by unfold minF; split; exact .inr rfl; exact .inl rfl
theorem maxF_or (a b : Rat) : maxF a b = a ∨ maxF a b = b := by unfold maxF; split; exact .inr rfl; exact .inl rfl
theorem fd_least_of (T : Tx K mg) : Fd CX0 P w K mg base 2 "least_of" ["ratios"] (spD K 1 fun ds r => ∃ qs : List Rat, ds = [.list (qs.map dR)] ∧ qs ≠ [] ∧ (∀ x ∈ qs, Bz 4000 x) ∧ r = dR (leastR qs)) := by
  have W := fd_is_less (P := P) (w := w) (base := base) T
  obtain ⟨fd, F, hm⟩ := T.f_least_of
  refine fd_mk F hm (ok_D F sc_least_of rfl fun cdv A outer s H E M vs ds d D' hr hl hR S k _ => ?_) (fun _ _ _ _ _ _ us hl => match us, hl with | [_], _ => rfl)
  obtain ⟨qs, rfl, hne, hz, rfl⟩ := hR
  obtain ⟨q, l, rfl⟩ : ∃ q l, qs = q :: l := by cases qs with | nil => exact absurd rfl hne | cons q l => exact ⟨q, l, rfl⟩
  refine sy_set 1 S (d := dR q) (jd_ixL (n := 0) (S.at 0) jd_int rfl rfl) (fun σ1 H1 S1 => ?_) sc_least_of.nd
  refine sy_for (ds := l.map dR) S1 (jw_lst (Jd.is (jd_slLFrom (n := 1) (S1.at 0) jd_int rfl (by simp)) (by rfl))) (fun d ρ => ρ.set 2 (some (.dat d))) (js := [2]) (fun d ρ' _ => jg_name 2 sc_least_of.nd)
    (fun i ρ' μ' => μ' = [] ∧ ∃ o, ρ' = [some (.dat (.list ((q :: l).map dR))), some (.dat (dR ((l.take i).foldl minF q))), o]) ⟨rfl, _, rfl⟩ ?_ ?_ PassesOwn.never rfl
  · rintro i d ρ' μ' σ' H' B' hd ⟨rfl, o, rfl⟩ hB S2
    rw [List.getElem?_map] at hd
    obtain ⟨e, he, rfl⟩ := Option.map_eq_some_iff.mp hd
    have b1 : Bz 4000 ((l.take i).foldl minF q) := fold_bz minF_or (hz q List.mem_cons_self) fun x hx => hz x (List.mem_cons_of_mem _ (List.mem_of_mem_take hx))
    have b2 : Bz 4000 e := hz e (List.mem_cons_of_mem _ (List.mem_of_getElem? he))
    refine sy_set 1 S2 (d := dR (minF ((l.take i).foldl minF q) e)) (jd_if (jt_val (jd_call W (hr.mono (by decide)) (ja_cons (S2.at 2) (ja_cons (S2.at 1) ja_nil)) rfl ⟨_, _, rfl, b2, b1, rfl⟩)) (fun h => Jd.is (S2.at 2) ?_) fun h => Jd.is (S2.at 1) ?_) (fun σ3 H3 S3 => tB_nil ?_) sc_least_of.nd
    · exact congrArg dR (if_pos (of_decide_eq_true h)).symm
    · exact congrArg dR (if_neg (of_decide_eq_false h)).symm
    · exact ⟨_, _, ⟨rfl, _, by rw [fold_take _ _ he]; rfl⟩, S3⟩
  · rintro ρ' μ' σ' H' ⟨rfl, o, rfl⟩ S2
    rw [List.length_map, List.take_length] at S2
    exact sy_ret S2 (S2.at 1) fun v H' x _ p => k v H' x p
theorem fd_greatest_of (T : Tx K mg) : Fd CX0 P w K mg base 2 "greatest_of" ["ratios"] (spD K 1 fun ds r => ∃ qs : List Rat, ds = [.list (qs.map dR)] ∧ qs ≠ [] ∧ (∀ x ∈ qs, Bz 4000 x) ∧ r = dR (greatR qs)) := by
  have W := fd_is_less (P := P) (w := w) (base := base) T
  obtain ⟨fd, F, hm⟩ := T.f_greatest_of
  refine fd_mk F hm (ok_D F sc_greatest_of rfl fun cdv A outer s H E M vs ds d D' hr hl hR S k _ => ?_) (fun _ _ _ _ _ _ us hl => match us, hl with | [_], _ => rfl)
  obtain ⟨qs, rfl, hne, hz, rfl⟩ := hR
  obtain ⟨q, l, rfl⟩ : ∃ q l, qs = q :: l := by cases qs with | nil => exact absurd rfl hne | cons q l => exact ⟨q, l, rfl⟩
  refine sy_set 1 S (d := dR q) (jd_ixL (n := 0) (S.at 0) jd_int rfl rfl) (fun σ1 H1 S1 => ?_) sc_greatest_of.nd
  refine sy_for (ds := l.map dR) S1 (jw_lst (Jd.is (jd_slLFrom (n := 1) (S1.at 0) jd_int rfl (by simp)) (by rfl))) (fun d ρ => ρ.set 2 (some (.dat d))) (js := [2]) (fun d ρ' _ => jg_name 2 sc_greatest_of.nd)
    (fun i ρ' μ' => μ' = [] ∧ ∃ o, ρ' = [some (.dat (.list ((q :: l).map dR))), some (.dat (dR ((l.take i).foldl maxF q))), o]) ⟨rfl, _, rfl⟩ ?_ ?_ PassesOwn.never rfl
  · rintro i d ρ' μ' σ' H' B' hd ⟨rfl, o, rfl⟩ hB S2
    rw [List.getElem?_map] at hd
    obtain ⟨e, he, rfl⟩ := Option.map_eq_some_iff.mp hd
    have b1 : Bz 4000 ((l.take i).foldl maxF q) := fold_bz maxF_or (hz q List.mem_cons_self) fun x hx => hz x (List.mem_cons_of_mem _ (List.mem_of_mem_take hx))
    have b2 : Bz 4000 e := hz e (List.mem_cons_of_mem _ (List.mem_of_getElem? he))
    refine sy_set 1 S2 (d := dR (maxF ((l.take i).foldl maxF q) e)) (jd_if (jt_val (jd_call W (hr.mono (by decide)) (ja_cons (S2.at 1) (ja_cons (S2.at 2) ja_nil)) rfl ⟨_, _, rfl, b1, b2, rfl⟩)) (fun h => Jd.is (S2.at 2) ?_) fun h => Jd.is (S2.at 1) ?_) (fun σ3 H3 S3 => tB_nil ?_) sc_greatest_of.nd
    · exact congrArg dR (if_pos (of_decide_eq_true h)).symm
    · exact congrArg dR (if_neg (of_decide_eq_false h)).symm
    · exact ⟨_, _, ⟨rfl, _, by rw [fold_take _ _ he]; rfl⟩, S3⟩
  · rintro ρ' μ' σ' H' ⟨rfl, o, rfl⟩ S2
    rw [List.length_map, List.take_length] at S2
    exact sy_ret S2 (S2.at 1) fun v H' x _ p => k v H' x p
/-- products, two by two -/
def prods (ss rs : List Rat) : List Rat := (ss.zip rs).map fun p => p.1 * p.2
def dotR (ss rs : List Rat) : Rat := (prods ss rs).sum
def DotOk (ss rs : List Rat) : Prop := (∀ x ∈ ss, Bz 4000 x) ∧ (∀ x ∈ rs, Bz 4000 x) ∧ SumOk (prods ss rs) ∧ ss.length ≤ 1000
theorem zip_len {α β : Type} {xs : List α} {ys : List β} {n : Nat} (h : xs.length ≤ n) : (xs.zip ys).length ≤ n := by rw [List.length_zip]; omega
theorem fd_mean_of (T : Tx K mg) : Fd CX0 P w K mg base 4 "mean_of" ["ratios", "shares"] (spD K 2 fun ds r => ∃ (b1 b2 : Bool) (rs ss : List Rat), ds = [seqD b1 (rs.map dR), seqD b2 (ss.map dR)] ∧ DotOk ss rs ∧ r = dR (dotR ss rs)) := by
  have W1 := fd_total (P := P) (w := w) (base := base) T
  have W2 := fd_times (P := P) (w := w) (base := base) T
  obtain ⟨fd, F, hm⟩ := T.f_mean_of
  refine fd_mk F hm (ok_D F sc_mean_of rfl fun cdv A outer s H E M vs ds d D' hr hl hR S k _ => ?_) (fun _ _ _ _ _ _ us hl => match us, hl with | [_, _], _ => rfl)
  obtain ⟨b1, b2, rs, ss, rfl, ⟨h1, h2, h3, h4⟩, rfl⟩ := hR
  refine sy_ret S (jd_call W1 (hr.mono (by decide)) (ja_cons (Jn.jd (ds := (prods ss rs).map dR) ?_) ja_nil) rfl ⟨false, prods ss rs, rfl, h3, rfl⟩) fun v H' x _ p => k v H' x p
  unfold prods
  rw [List.map_map]
  refine sy_lcM (α := Rat × Rat) (xs := ss.zip rs) (g := fun p => .tuple [dR p.1, dR p.2]) S (by rw [← zipD_map]; exact jw_zipB (b1 := b2) (b2 := b1) T.n_zip (S.at 1) (S.at 0)) _ (zip_len (by omega)) (fun d ρ => match d with | .tuple [x, y] => (ρ.set 2 (some (.dat x))).set 3 (some (.dat y)) | _ => ρ) (js := [2, 3]) (own := [("share", 2), ("ratio_", 3)]) (by simp) ?_ ?_ (blkOk_by (by rfl)) rfl sc_mean_of.nd
  · rintro _ d ⟨s, H, C, cl, fp, rfl⟩ _
    exact jg_tup rfl (jgs_cons (jg_name 2 sc_mean_of.nd) (jgs_cons (jg_name 3 sc_mean_of.nd) jgs_nil))
  · rintro i ⟨x, y⟩ _ B' M' σ' H' hx ⟨s, H, C, cl, fp, rfl⟩ S'
    have m := List.mem_of_getElem? hx
    exact jd_call W2 (hr.mono (by decide)) (ja_cons (S'.at 2) (ja_cons (S'.at 3) ja_nil)) rfl ⟨x, y, rfl, h1 x (List.of_mem_zip m).1, h2 y (List.of_mem_zip m).2, rfl⟩
theorem fd_law_sr_dot (T : Tx K mg) : Fd CX0 P w K mg base 4 "_law_sr_dot" ["shares", "ratios"] (spD K 2 fun ds r => ∃ (b1 b2 : Bool) (rs ss : List Rat), ds = [seqD b2 (ss.map dR), seqD b1 (rs.map dR)] ∧ DotOk ss rs ∧ r = dR (dotR ss rs)) := by
  have W1 := fd_law_sum (P := P) (w := w) (base := base) T
  have W2 := fd_law_times (P := P) (w := w) (base := base) T
  obtain ⟨fd, F, hm⟩ := T.f_law_sr_dot
  refine fd_mk F hm (ok_D F sc_law_sr_dot rfl fun cdv A outer s H E M vs ds d D' hr hl hR S k _ => ?_) (fun _ _ _ _ _ _ us hl => match us, hl with | [_, _], _ => rfl)
  obtain ⟨b1, b2, rs, ss, rfl, ⟨h1, h2, h3, h4⟩, rfl⟩ := hR
  refine sy_ret S (jd_call W1 (hr.mono (by decide)) (ja_cons (Jn.jd (ds := (prods ss rs).map dR) ?_) ja_nil) rfl ⟨false, prods ss rs, rfl, h3, rfl⟩) fun v H' x _ p => k v H' x p
  unfold prods
  rw [List.map_map]
  refine sy_lcM (α := Rat × Rat) (xs := ss.zip rs) (g := fun p => .tuple [dR p.1, dR p.2]) S (by rw [← zipD_map]; exact jw_zipB (b1 := b2) (b2 := b1) T.n_zip (S.at 0) (S.at 1)) _ (zip_len (by omega)) (fun d ρ => match d with | .tuple [x, y] => (ρ.set 2 (some (.dat x))).set 3 (some (.dat y)) | _ => ρ) (js := [2, 3]) (own := [("share", 2), ("ratio", 3)]) (by simp) ?_ ?_ (blkOk_by (by rfl)) rfl sc_law_sr_dot.nd
  · rintro _ d ⟨s, H, C, cl, fp, rfl⟩ _
    exact jg_tup rfl (jgs_cons (jg_name 2 sc_law_sr_dot.nd) (jgs_cons (jg_name 3 sc_law_sr_dot.nd) jgs_nil))
  · rintro i ⟨x, y⟩ _ B' M' σ' H' hx ⟨s, H, C, cl, fp, rfl⟩ S'
    have m := List.mem_of_getElem? hx
    exact jd_call W2 (hr.mono (by decide)) (ja_cons (S'.at 2) (ja_cons (S'.at 3) ja_nil)) rfl ⟨x, y, rfl, h1 x (List.of_mem_zip m).1, h2 y (List.of_mem_zip m).2, rfl⟩
end K60

set_option maxHeartbeats 4000000
namespace K60
open PySem PySem.Spec PyProof.Rows L2 J Evl
variable {P : Program} {w : World} {K : PySem.W.Frag} {mg : Str → Option Value} {base : Heap}
def toR : D → Rat
  | .tuple [.int n, .int m] => Rat.divInt n m
  | _ => 0
theorem toR_dR (r : Rat) : toR (dR r) = r := Rat.num_divInt_den r
abbrev rT (l : List Rat) : D := .tuple (l.map dR)
abbrev pD (p : Rat × Rat) : D := .tuple [dR p.1, dR p.2]
abbrev psD (ps : List (Rat × Rat)) : D := .tuple (ps.map pD)
/-! ### pairs, rates -/
def isPr : D → Bool
  | .tuple [a, b] => isC a && isC b && decide (toR b < toR a)
  | _ => false
/-- a part that may be asked about -/
def Sm (x : D) : Prop := Sh x ∧ ∀ r, x = dR r → Bz 4000 r
def AskP (a : D) : Prop := ∀ l, a = .tuple l → ∀ x ∈ l, Sm x
theorem fd_is_pair (T : Tx K mg) : Fd CX0 P w K mg base 4 "is_pair" ["value"] (spD K 1 fun ds d => ∃ a, ds = [a] ∧ AskP a ∧ d = .bool (isPr a)) := by
  have W1 := fd_is_chance (P := P) (w := w) (base := base) T
  have W2 := fd_is_less (P := P) (w := w) (base := base) T
  obtain ⟨fd, F, hm⟩ := T.f_is_pair
  refine fd_mk F hm (ok_D F sc_is_pair rfl fun cdv A outer s H E M vs ds d D' hr hl hR S k _ => ?_) (fun _ _ _ _ _ _ us hl => match us, hl with | [_], _ => rfl)
  obtain ⟨a, rfl, hz, rfl⟩ := hR
  by_cases ht : ∃ x y, a = .tuple [x, y]
  · obtain ⟨x, y, rfl⟩ := ht
    have hx := hz _ rfl x (by simp)
    have hy := hz _ rfl y (by simp)
    refine sy_when S (jt_or4 (jt_not (jt_val (jd_isi T.n_isinstance T.n_tuple boot_tuple (S.at 0) (kit_tuple (.tuple [x, y]))))) (fun _ => jt_neI (jd_len T.n_len (S.at 0) (.inl rfl)) jd_int)
      (fun _ _ => jt_not (jt_val (jd_call W1 (hr.mono (by decide)) (ja_cons (jd_ixT (n := 0) (S.at 0) jd_int rfl rfl) ja_nil) rfl ⟨x, rfl, hx.1, rfl⟩)))
      (fun _ _ _ => jt_not (jt_val (jd_call W1 (hr.mono (by decide)) (ja_cons (jd_ixT (n := 1) (S.at 0) jd_int rfl rfl) ja_nil) rfl ⟨y, rfl, hy.1, rfl⟩)))) (fun h H1 S1 => ?_) (fun h H1 S1 => ?_)
    · refine sy_ret S1 (d := .bool (isPr (.tuple [x, y]))) (jd_bl.is ?_) fun v H' x _ p => k v H' x p
      congr 1
      unfold isPr
      cases q1 : isC x <;> cases q2 : isC y <;> simp_all [dIsT]
    · have h2 : isC x = true ∧ isC y = true := by
        cases q1 : isC x <;> cases q2 : isC y <;> simp_all [dIsT]
      obtain ⟨r, rfl, _⟩ := isC_of h2.1
      obtain ⟨t, rfl, _⟩ := isC_of h2.2
      refine sy_ret S1 (jd_call W2 (hr.mono (by decide)) (ja_cons (jd_ixT (n := 1) (S1.at 0) jd_int rfl rfl) (ja_cons (jd_ixT (n := 0) (S1.at 0) jd_int rfl rfl) ja_nil)) rfl ⟨t, r, rfl, hy.2 _ rfl, hx.2 _ rfl, ?_⟩) fun v H' x _ p => k v H' x p
      show PyData.bool (isC (dR r) && isC (dR t) && decide (toR (dR t) < toR (dR r))) = _
      rw [h2.1, h2.2, toR_dR, toR_dR]; rfl
  · have e : isPr a = false := by
      unfold isPr
      split
      · exact absurd ⟨_, _, rfl⟩ ht
      · rfl
    rw [e] at k
    cases a with
    | tuple l =>
      have hl2 : decide ((l.length : Int) = 2) = false := by
        refine decide_eq_false fun z => ht ?_
        match l, z with
        | [x, y], _ => exact ⟨x, y, rfl⟩
        | [], z => simp at z
        | [_], z => simp at z
        | _ :: _ :: _ :: _, z => simp at z; omega
      refine sy_when (b := !true || (!false || (true || true))) S (jt_or4 (jt_not (jt_val (jd_isi T.n_isinstance T.n_tuple boot_tuple (S.at 0) (kit_tuple (.tuple l))))) (fun _ => Jt.is (jt_neI (jd_len T.n_len (S.at 0) (.inl rfl)) jd_int) (by rw [hl2])) (fun _ z => by cases z) (fun _ z => by cases z)) (fun h H1 S1 => ?_) (fun h H1 S1 => by cases h)
      exact sy_ret S1 jd_bl fun v H' x _ p => k v H' x p
    | _ =>
      refine sy_when (b := !false || (true || (true || true))) S (jt_or4 (jt_not (jt_val (jd_isi T.n_isinstance T.n_tuple boot_tuple (S.at 0) (kit_tuple _)))) (fun z => by cases z) (fun z => by cases z) (fun z => by cases z)) (fun h H1 S1 => ?_) (fun h H1 S1 => by cases h)
      exact sy_ret S1 jd_bl fun v H' x _ p => k v H' x p
def isRs : D → Bool
  | .tuple l => (decide (1 ≤ (l.length : Int)) && decide ((l.length : Int) ≤ 8)) && l.all isPr
  | _ => false
def AskR (a : D) : Prop := ∀ l, a = .tuple l → ∀ x ∈ l, AskP x
theorem fd_is_rates (T : Tx K mg) : Fd CX0 P w K mg base 5 "is_rates" ["value"] (spD K 1 fun ds d => ∃ a, ds = [a] ∧ AskR a ∧ d = .bool (isRs a)) := by
  have W := fd_is_pair (P := P) (w := w) (base := base) T
  obtain ⟨fd, F, hm⟩ := T.f_is_rates
  obtain ⟨tok, hmp⟩ := T.c_MOST_STRATA
  refine fd_mk F hm (ok_D F sc_is_rates rfl fun cdv A outer s H E M vs ds d D' hr hl hR S k _ => ?_) (fun _ _ _ _ _ _ us hl => match us, hl with | [_], _ => rfl)
  obtain ⟨a, rfl, hz, rfl⟩ := hR
  by_cases ht : dIsT a = true
  · obtain ⟨ts, rfl⟩ : ∃ ts, a = .tuple ts := by cases a <;> first | (cases ht; done) | exact ⟨_, rfl⟩
    have hz := hz ts rfl
    refine sy_when (b := !true || !(decide (1 ≤ (ts.length : Int)) && decide ((ts.length : Int) ≤ 8))) S (jt_or (jt_not (jt_val (jd_isi T.n_isinstance T.n_tuple boot_tuple (S.at 0) (kit_tuple (.tuple ts))))) (fun _ => jt_not (jt_chain op_le op_le jd_int (jd_len T.n_len (S.at 0) (.inl rfl)) (jd_glob hmp (v := .int 8) ⟨tok, rfl⟩ (.int 8)) (by with_unfolding_all rfl)))) (fun h H1 S1 => ?_) (fun h H1 S1 => ?_)
    · refine sy_ret S1 (d := .bool (isRs (.tuple ts))) (jd_bl.is ?_) fun v H' x _ p => k v H' x p
      congr 1
      have h : (decide (1 ≤ (ts.length : Int)) && decide ((ts.length : Int) ≤ 8)) = false := by rw [Bool.not_true, Bool.false_or, Bool.not_eq_true'] at h; exact h
      show false = (_ && _)
      rw [h]; rfl
    · have h : (decide (1 ≤ (ts.length : Int)) && decide ((ts.length : Int) ≤ 8)) = true := by rw [Bool.not_true, Bool.false_or, Bool.not_eq_false'] at h; exact h
      have h2 : ts.length ≤ 8 := by simp at h; omega
      have e : isRs (.tuple ts) = (ts.all isPr) := by
        show (_ && _) = _
        rw [h]; rfl
      rw [e] at k
      refine sy_ret S1 (Jd.is (jd_all (bs := ts.map isPr) rfl T.n_all (Jd.is (Jn.jd (sy_lcM (α := D) (g := id) S1 (by rw [List.map_id]; exact jw_tup (S1.at 0)) (fun d => .bool (isPr d)) (by omega) (fun d ρ => ρ.set 1 (some (.dat d))) (js := [1]) (own := [("pair", 1)]) (by simp) ?_ ?_ (blkOk_by (by rfl)) rfl sc_is_rates.nd)) (by rw [List.map_map]; rfl))) (by rw [all_map])) fun v H' x _ p => k v H' x p
      · rintro _ d ⟨s, H, C, cl, fp, rfl⟩ _
        exact jg_name 1 sc_is_rates.nd
      · rintro i d _ B' M' σ' H' h1 ⟨s, H, C, cl, fp, rfl⟩ S'
        exact jd_call W (hr.mono (by decide)) (ja_cons (S'.at 1) ja_nil) rfl ⟨_, rfl, hz d (List.mem_of_getElem? h1), rfl⟩
  · have ht : dIsT a = false := by simpa using ht
    have e : isRs a = false := by cases a <;> first | rfl | cases ht
    rw [e] at k
    refine sy_when (b := !(dIsT a) || true) S (jt_or (jt_not (jt_val (jd_isi T.n_isinstance T.n_tuple boot_tuple (S.at 0) (kit_tuple a)))) (fun z => ?_)) (fun h H1 S1 => ?_) (fun h H1 S1 => ?_)
    · rw [ht] at z; cases z
    · exact sy_ret S1 jd_bl fun v H' x _ p => k v H' x p
    · rw [ht] at h; cases h
theorem fd_need_rates (T : Tx K mg) : Fd (CX P w) P w K mg base 6 "need_rates" ["rates"] (spX K 1 (fun ds d => ∃ a, ds = [a] ∧ AskR a ∧ isRs a = true ∧ d = .none) fun ds c => ∃ a, ds = [a] ∧ AskR a ∧ isRs a = false ∧ c = .ref (He.ga K "BadRates")) := by
  have W := fd_is_rates (P := P) (w := w) (base := base) T
  obtain ⟨fd, F, hm⟩ := T.f_need_rates
  refine fd_mk F hm (ok_X F sc_need_rates rfl fun cdv A outer s H E M vs ds D' hr hl S hR => ?_) (fun _ _ _ _ _ _ us hl => match us, hl with | [_], _ => rfl)
  obtain ⟨a, rfl, hz⟩ : ∃ a, ds = [a] ∧ AskR a := by
    rcases hR with ⟨d, ⟨a, h1, h2, _⟩, _⟩ | ⟨c, ⟨a, h1, h2, _⟩, _⟩ <;> exact ⟨a, h1, h2⟩
  refine sy_when S (jt_not (jt_val (jd_call W (hr.mono (by decide)) (ja_cons (S.at 0) ja_nil) rfl ⟨a, rfl, hz, rfl⟩))) (fun h H1 S1 => ?_) (fun h H1 S1 => ?_)
  · rcases hR with ⟨d, ⟨_, h1, _, h3, _⟩, _⟩ | ⟨c, ⟨_, h1, h2, h3, rfl⟩, kE⟩
    · cases h1
      rw [h3] at h; cases h
    · exact tB_raiseV T.x_BadRates T.g_BadRates bodyE_tk (kE H1 S1.bs)
  · rcases hR with ⟨d, ⟨_, h1, _, h3, rfl⟩, _, kn⟩ | ⟨c, ⟨_, h1, h2, h3, rfl⟩, kE⟩
    · exact tB_nil (kn rfl _ _ S1.bs)
    · cases h1
      rw [h3] at h; cases h
theorem fd_need_slack (T : Tx K mg) : Fd (CX P w) P w K mg base 4 "need_slack" ["slack"] (spX K 1 (fun ds d => ∃ a, ds = [a] ∧ Sh a ∧ isC a = true ∧ d = .none) fun ds c => ∃ a, ds = [a] ∧ Sh a ∧ isC a = false ∧ c = .ref (He.ga K "BadSlack")) := by
  have W := fd_is_chance (P := P) (w := w) (base := base) T
  obtain ⟨fd, F, hm⟩ := T.f_need_slack
  refine fd_mk F hm (ok_X F sc_need_slack rfl fun cdv A outer s H E M vs ds D' hr hl S hR => ?_) (fun _ _ _ _ _ _ us hl => match us, hl with | [_], _ => rfl)
  obtain ⟨a, rfl, hz⟩ : ∃ a, ds = [a] ∧ Sh a := by
    rcases hR with ⟨d, ⟨a, h1, h2, _⟩, _⟩ | ⟨c, ⟨a, h1, h2, _⟩, _⟩ <;> exact ⟨a, h1, h2⟩
  refine sy_when S (jt_not (jt_val (jd_call W (hr.mono (by decide)) (ja_cons (S.at 0) ja_nil) rfl ⟨a, rfl, hz, rfl⟩))) (fun h H1 S1 => ?_) (fun h H1 S1 => ?_)
  · rcases hR with ⟨d, ⟨_, h1, _, h3, _⟩, _⟩ | ⟨c, ⟨_, h1, h2, h3, rfl⟩, kE⟩
    · cases h1
      rw [h3] at h; cases h
    · exact tB_raiseV T.x_BadSlack T.g_BadSlack bodyE_tk (kE H1 S1.bs)
  · rcases hR with ⟨d, ⟨_, h1, _, h3, rfl⟩, _, kn⟩ | ⟨c, ⟨_, h1, h2, h3, rfl⟩, kE⟩
    · exact tB_nil (kn rfl _ _ S1.bs)
    · cases h1
      rw [h3] at h; cases h
end K60

set_option maxHeartbeats 1000000
/-! M60: the plain law of k60. -/
namespace K60
open J
/-! ### products, sums -/
theorem dot_cons {x y : Rat} {a r : List Rat} : dotR (x :: a) (y :: r) = x * y + dotR a r := by
  unfold dotR prods
  rw [List.zip_cons_cons, List.map_cons, List.sum_cons]
theorem dot_nil {r : List Rat} : dotR [] r = 0 := rfl
def mixR (a b : List Rat) (s : Rat) : List Rat := (a.zip b).map fun p => (1 - s) * p.1 + s * p.2
theorem mix_cons {x y s : Rat} {a b : List Rat} : mixR (x :: a) (y :: b) s = ((1 - s) * x + s * y) :: mixR a b s := rfl
theorem mix_len {s : Rat} {a b : List Rat} (h : a.length = b.length) : (mixR a b s).length = a.length := by
  unfold mixR; rw [List.length_map, List.length_zip]; omega
theorem dot_mix {s : Rat} : ∀ {a b r : List Rat}, a.length = b.length → dotR (mixR a b s) r = (1 - s) * dotR a r + s * dotR b r
  | [], [], r, _ => by simp only [mixR, List.zip_nil_left, List.map_nil, dot_nil]; grind
  | x :: a, y :: b, [], _ => by
    have e : ∀ l : List Rat, dotR l [] = 0 := fun l => by unfold dotR prods; rw [List.zip_nil_right]; rfl
    rw [e, e, e]; grind
  | x :: a, y :: b, z :: r, h => by
    have ih := dot_mix (s := s) (a := a) (b := b) (r := r) (by simpa using h)
    rw [mix_cons, dot_cons, dot_cons, dot_cons, ih]
    grind
theorem sum_mix {s : Rat} : ∀ {a b : List Rat}, a.length = b.length → (mixR a b s).sum = (1 - s) * a.sum + s * b.sum
  | [], [], _ => by simp only [mixR, List.zip_nil_left, List.map_nil, List.sum_nil]; grind
  | x :: a, y :: b, h => by
    have ih := sum_mix (s := s) (a := a) (b := b) (by simpa using h)
    rw [mix_cons, List.sum_cons, List.sum_cons, List.sum_cons, ih]
    grind
/-- shares -/
def ShL (n : Nat) (l : List Rat) : Prop := l.length = n ∧ (∀ x ∈ l, 0 ≤ x) ∧ l.sum = 1
theorem sum_nn : ∀ {l : List Rat}, (∀ x ∈ l, 0 ≤ x) → 0 ≤ l.sum
  | [], _ => by rw [List.sum_nil]; exact Rat.le_refl
  | x :: l, h => by
    have h1 := sum_nn (l := l) fun y hy => h y (List.mem_cons_of_mem _ hy)
    have h2 := h x List.mem_cons_self
    rw [List.sum_cons]; grind
theorem le_sum : ∀ {l : List Rat} {x : Rat}, (∀ x ∈ l, 0 ≤ x) → x ∈ l → x ≤ l.sum
  | y :: l, x, h, hx => by
    have h1 := sum_nn (l := l) fun y hy => h y (List.mem_cons_of_mem _ hy)
    have h2 := h y List.mem_cons_self
    rw [List.sum_cons]
    rcases List.mem_cons.mp hx with e | e
    · subst e; grind
    · have := le_sum (fun y hy => h y (List.mem_cons_of_mem _ hy)) e; grind
theorem ShL.le {n : Nat} {l : List Rat} (h : ShL n l) {x : Rat} (hx : x ∈ l) : x ≤ 1 := by
  have := le_sum h.2.1 hx
  rw [h.2.2] at this; exact this
theorem mul_nn {a b : Rat} (ha : 0 ≤ a) (hb : 0 ≤ b) : 0 ≤ a * b := Rat.mul_nonneg ha hb
theorem ShL.mix {n : Nat} {a b : List Rat} {s : Rat} (ha : ShL n a) (hb : ShL n b) (h0 : 0 ≤ s) (h1 : s ≤ 1) : ShL n (mixR a b s) := by
  have hl : a.length = b.length := by rw [ha.1, hb.1]
  refine ⟨by rw [mix_len hl, ha.1], fun x hx => ?_, by rw [sum_mix hl, ha.2.2, hb.2.2]; grind⟩
  obtain ⟨⟨u, v⟩, hp, rfl⟩ := List.mem_map.mp hx
  have m1 := mul_nn (a := 1 - s) (b := u) (by grind) (ha.2.1 u (List.of_mem_zip hp).1)
  have m2 := mul_nn h0 (hb.2.1 v (List.of_mem_zip hp).2)
  show 0 ≤ (1 - s) * u + s * v
  grind
/-- a mean of shares is at most the greatest, at least the least -/
theorem dot_le {c : Rat} : ∀ {a r : List Rat}, a.length = r.length → (∀ x ∈ a, 0 ≤ x) → (∀ y ∈ r, y ≤ c) → dotR a r ≤ c * a.sum
  | [], [], _, _, _ => by rw [dot_nil, List.sum_nil]; grind
  | x :: a, y :: r, h, ha, hr => by
    have ih := dot_le (c := c) (a := a) (r := r) (by simpa using h) (fun z hz => ha z (List.mem_cons_of_mem _ hz)) fun z hz => hr z (List.mem_cons_of_mem _ hz)
    have m := mul_nn (a := x) (b := c - y) (ha x List.mem_cons_self) (by have := hr y List.mem_cons_self; grind)
    rw [dot_cons, List.sum_cons]
    grind
theorem le_dot {c : Rat} : ∀ {a r : List Rat}, a.length = r.length → (∀ x ∈ a, 0 ≤ x) → (∀ y ∈ r, c ≤ y) → c * a.sum ≤ dotR a r
  | [], [], _, _, _ => by rw [dot_nil, List.sum_nil]; grind
  | x :: a, y :: r, h, ha, hr => by
    have ih := le_dot (c := c) (a := a) (r := r) (by simpa using h) (fun z hz => ha z (List.mem_cons_of_mem _ hz)) fun z hz => hr z (List.mem_cons_of_mem _ hz)
    have m := mul_nn (a := x) (b := y - c) (ha x List.mem_cons_self) (by have := hr y List.mem_cons_self; grind)
    rw [dot_cons, List.sum_cons]
    grind
/-! ### least, greatest -/
theorem fold_min : ∀ {l : List Rat} {q : Rat}, (l.foldl minF q ≤ q) ∧ ∀ x ∈ l, l.foldl minF q ≤ x
  | [], q => ⟨Rat.le_refl, by simp⟩
  | y :: l, q => by
    obtain ⟨h1, h2⟩ := fold_min (l := l) (q := minF q y)
    have m : minF q y ≤ q ∧ minF q y ≤ y := by unfold minF; split <;> grind
    rw [List.foldl_cons]
    refine ⟨by grind, fun x hx => ?_⟩
    rcases List.mem_cons.mp hx with e | e
    · subst e; grind
    · exact h2 x e
theorem fold_max : ∀ {l : List Rat} {q : Rat}, (q ≤ l.foldl maxF q) ∧ ∀ x ∈ l, x ≤ l.foldl maxF q
  | [], q => ⟨Rat.le_refl, by simp⟩
  | y :: l, q => by
    obtain ⟨h1, h2⟩ := fold_max (l := l) (q := maxF q y)
    have m : q ≤ maxF q y ∧ y ≤ maxF q y := by unfold maxF; split <;> grind
    rw [List.foldl_cons]
    refine ⟨by grind, fun x hx => ?_⟩
    rcases List.mem_cons.mp hx with e | e
    · subst e; grind
    · exact h2 x e
theorem fold_mem {f : Rat → Rat → Rat} (hf : ∀ a b, f a b = a ∨ f a b = b) : ∀ {l : List Rat} {q : Rat}, l.foldl f q = q ∨ l.foldl f q ∈ l
  | [], q => .inl rfl
  | y :: l, q => by
    rw [List.foldl_cons]
    rcases fold_mem hf (l := l) (q := f q y) with h | h
    · rw [h]
      rcases hf q y with e | e
      · exact .inl e
      · rw [e]; exact .inr List.mem_cons_self
    · exact .inr (List.mem_cons_of_mem _ h)
theorem least_le {l : List Rat} {x : Rat} (h : x ∈ l) : leastR l ≤ x := by
  cases l with
  | nil => cases h
  | cons q l =>
    obtain ⟨h1, h2⟩ := fold_min (l := l) (q := q)
    rcases List.mem_cons.mp h with e | e
    · subst e; exact h1
    · exact h2 x e
theorem le_great {l : List Rat} {x : Rat} (h : x ∈ l) : x ≤ greatR l := by
  cases l with
  | nil => cases h
  | cons q l =>
    obtain ⟨h1, h2⟩ := fold_max (l := l) (q := q)
    rcases List.mem_cons.mp h with e | e
    · subst e; exact h1
    · exact h2 x e
theorem least_mem {l : List Rat} (h : l ≠ []) : leastR l ∈ l := by
  cases l with
  | nil => exact absurd rfl h
  | cons q l =>
    rcases fold_mem minF_or (l := l) (q := q) with e | e
    · show l.foldl minF q ∈ _; rw [e]; exact List.mem_cons_self
    · exact List.mem_cons_of_mem _ e
theorem great_mem {l : List Rat} (h : l ≠ []) : greatR l ∈ l := by
  cases l with
  | nil => exact absurd rfl h
  | cons q l =>
    rcases fold_mem maxF_or (l := l) (q := q) with e | e
    · show l.foldl maxF q ∈ _; rw [e]; exact List.mem_cons_self
    · exact List.mem_cons_of_mem _ e
/-! ### the rates -/
abbrev Prs := List (Rat × Rat)
def fsts (ps : Prs) : List Rat := ps.map (·.1)
def snds (ps : Prs) : List Rat := ps.map (·.2)
def gaps (ps : Prs) : List Rat := ps.map fun p => p.2 - p.1
def nearR (ps : Prs) : Rat := greatR (gaps ps)
def roomR (ps : Prs) : Rat := greatR (snds ps) - leastR (fsts ps)
def wgap (ps : Prs) (s : Rat) : Rat := (1 - s) * nearR ps + s * roomR ps
def gapR (ps : Prs) (a b : List Rat) : Rat := dotR b (snds ps) - dotR a (fsts ps)
structure RsOk (ps : Prs) : Prop where
  l1 : 1 ≤ ps.length
  l8 : ps.length ≤ 8
  el : ∀ p ∈ ps, 0 ≤ p.2 ∧ p.2 < p.1 ∧ p.1 ≤ 1 ∧ Bz 8 p.1 ∧ Bz 8 p.2
theorem RsOk.ne {ps : Prs} (h : RsOk ps) : ps ≠ [] := fun e => by have := h.l1; rw [e] at this; simp at this
theorem RsOk.fn {ps : Prs} (h : RsOk ps) : fsts ps ≠ [] := by unfold fsts; simpa using h.ne
theorem RsOk.sn {ps : Prs} (h : RsOk ps) : snds ps ≠ [] := by unfold snds; simpa using h.ne
theorem RsOk.gn {ps : Prs} (h : RsOk ps) : gaps ps ≠ [] := by unfold gaps; simpa using h.ne
theorem fsts_len {ps : Prs} : (fsts ps).length = ps.length := by unfold fsts; simp
theorem snds_len {ps : Prs} : (snds ps).length = ps.length := by unfold snds; simp
theorem gaps_len {ps : Prs} : (gaps ps).length = ps.length := by unfold gaps; simp
theorem near_lt {ps : Prs} (h : RsOk ps) : nearR ps < 0 := by
  have m : nearR ps ∈ gaps ps := great_mem h.gn
  obtain ⟨p, hp, e⟩ := List.mem_map.mp m
  have := h.el p hp
  rw [← e]; grind
theorem near_room {ps : Prs} (h : RsOk ps) : nearR ps ≤ roomR ps := by
  have m : nearR ps ∈ gaps ps := great_mem h.gn
  obtain ⟨p, hp, e⟩ := List.mem_map.mp m
  have h1 : p.2 ≤ greatR (snds ps) := le_great (List.mem_map.mpr ⟨p, hp, rfl⟩)
  have h2 : leastR (fsts ps) ≤ p.1 := least_le (List.mem_map.mpr ⟨p, hp, rfl⟩)
  unfold roomR
  rw [← e]; grind
theorem wgap_eq {ps : Prs} {s : Rat} : wgap ps s = nearR ps + s * (roomR ps - nearR ps) := by unfold wgap; grind
theorem wgap_mono {ps : Prs} (h : RsOk ps) {s t : Rat} (q : s ≤ t) : wgap ps s ≤ wgap ps t := by
  have m := mul_nn (a := t - s) (b := roomR ps - nearR ps) (by grind) (by have := near_room h; grind)
  rw [wgap_eq, wgap_eq]; grind
theorem dot_gaps : ∀ {ps : Prs} {a : List Rat}, a.length = ps.length → dotR a (snds ps) - dotR a (fsts ps) = dotR a (gaps ps)
  | [], [], _ => by simp only [dot_nil]; grind
  | p :: ps, x :: a, h => by
    have ih := dot_gaps (ps := ps) (a := a) (by simpa using h)
    show dotR (x :: a) (p.2 :: snds ps) - dotR (x :: a) (p.1 :: fsts ps) = dotR (x :: a) ((p.2 - p.1) :: gaps ps)
    rw [dot_cons, dot_cons, dot_cons, ← ih]; grind
/-- mixtures with a share of unlike make-ups have at most the widest gap -/
theorem gap_mix {ps : Prs} (h : RsOk ps) {c f g : List Rat} {s : Rat} (hc : ShL ps.length c) (hf : ShL ps.length f) (hg : ShL ps.length g) (h0 : 0 ≤ s) (h1 : s ≤ 1) : gapR ps (mixR c f s) (mixR c g s) ≤ wgap ps s := by
  unfold gapR
  rw [dot_mix (by rw [hc.1, hg.1]), dot_mix (by rw [hc.1, hf.1])]
  have e := dot_gaps (ps := ps) hc.1
  have b1 : dotR c (gaps ps) ≤ nearR ps * c.sum := dot_le (by rw [hc.1, gaps_len]) hc.2.1 fun y hy => le_great hy
  have b2 : dotR g (snds ps) ≤ greatR (snds ps) * g.sum := dot_le (by rw [hg.1, snds_len]) hg.2.1 fun y hy => le_great hy
  have b3 : leastR (fsts ps) * f.sum ≤ dotR f (fsts ps) := le_dot (by rw [hf.1, fsts_len]) hf.2.1 fun y hy => least_le hy
  rw [hc.2.2] at b1; rw [hg.2.2] at b2; rw [hf.2.2] at b3
  have m1 := mul_nn (a := 1 - s) (b := nearR ps - dotR c (gaps ps)) (by grind) (by grind)
  have m2 := mul_nn (a := s) (b := roomR ps - (dotR g (snds ps) - dotR f (fsts ps))) h0 (by unfold roomR; grind)
  unfold wgap
  rw [← e] at m1
  grind
/-! ### all at one -/
def atR (n i : Nat) : List Rat := (List.range n).map fun k => if k = i then 1 else 0
theorem at_len {n i : Nat} : (atR n i).length = n := by unfold atR; simp
theorem atR_succ {n i : Nat} : atR (n + 1) i = (if 0 = i then 1 else 0) :: (match i with | 0 => List.replicate n 0 | i + 1 => atR n i) := by
  unfold atR
  rw [List.range_succ_eq_map, List.map_cons, List.map_map]
  congr 1
  cases i with
  | zero =>
    apply List.ext_getElem
    · simp
    · intro m h1 h2; simp
  | succ i =>
    apply List.map_congr_left
    intro k _
    simp
theorem dot_zeros : ∀ {n : Nat} {r : List Rat}, dotR (List.replicate n 0) r = 0
  | 0, _ => rfl
  | n + 1, [] => by unfold dotR prods; rw [List.zip_nil_right]; rfl
  | n + 1, x :: r => by rw [List.replicate_succ, dot_cons, dot_zeros]; grind
theorem dot_at : ∀ {n i : Nat} {r : List Rat} {x : Rat}, r.length = n → r[i]? = some x → dotR (atR n i) r = x
  | 0, _, [], _, _, h => by simp at h
  | n + 1, 0, y :: r, x, hl, h => by
    rw [atR_succ, dot_cons, dot_zeros]
    simp at h; subst h
    rw [if_pos rfl]; grind
  | n + 1, i + 1, y :: r, x, hl, h => by
    rw [atR_succ, dot_cons]
    rw [dot_at (n := n) (i := i) (r := r) (x := x) (by simpa using hl) (by simpa using h)]
    simp; grind
theorem sum_at : ∀ {n i : Nat}, i < n → (atR n i).sum = 1
  | 0, _, h => by omega
  | n + 1, 0, _ => by
    rw [atR_succ, List.sum_cons]
    have z : ∀ m : Nat, (List.replicate m (0 : Rat)).sum = 0 := fun m => by
      induction m with
      | zero => rfl
      | succ m ih => rw [List.replicate_succ, List.sum_cons, ih]; grind
    rw [z, if_pos rfl]; grind
  | n + 1, i + 1, h => by
    rw [atR_succ, List.sum_cons]
    show _ + (atR n i).sum = 1
    rw [sum_at (by omega)]; simp; exact Rat.zero_add 1
theorem at_mem {n i : Nat} {x : Rat} (h : x ∈ atR n i) : x = 0 ∨ x = 1 := by
  obtain ⟨k, _, rfl⟩ := List.mem_map.mp h
  split
  · exact .inr rfl
  · exact .inl rfl
theorem sh_at {n i : Nat} (h : i < n) : ShL n (atR n i) := ⟨at_len, fun x hx => by rcases at_mem hx with e | e <;> rw [e] <;> grind, sum_at h⟩
/-! ### how far apart -/
def absd (a b : List Rat) : List Rat := (a.zip b).map fun p => (p.1 - p.2).abs
def apartR (a b : List Rat) : Rat := (1 / 2) * (absd a b).sum
theorem abs_le' {x c : Rat} (h1 : x ≤ c) (h2 : -x ≤ c) : x.abs ≤ c := by
  rcases (Rat.le_total : (0 : Rat) ≤ x ∨ x ≤ 0) with q | q
  · rw [Rat.abs_of_nonneg q]; exact h1
  · rw [Rat.abs_of_nonpos q]; exact h2
theorem abs_mul' {s x : Rat} (h : 0 ≤ s) : (s * x).abs = s * x.abs := by
  rcases (Rat.le_total : (0 : Rat) ≤ x ∨ x ≤ 0) with q | q
  · rw [Rat.abs_of_nonneg q, Rat.abs_of_nonneg (mul_nn h q)]
  · have m := mul_nn h (b := -x) (by grind)
    rw [Rat.abs_of_nonpos q, Rat.abs_of_nonpos (by grind)]; grind
theorem absd_cons {x y : Rat} {a b : List Rat} : absd (x :: a) (y :: b) = (x - y).abs :: absd a b := rfl
theorem absd_nn {a b : List Rat} : ∀ x ∈ absd a b, 0 ≤ x := fun x hx => by
  obtain ⟨p, _, rfl⟩ := List.mem_map.mp hx
  exact Rat.abs_nonneg
/-- the common part falls out -/
theorem absd_mix {s : Rat} (h : 0 ≤ s) : ∀ {c f g : List Rat}, c.length = f.length → c.length = g.length → (absd (mixR c f s) (mixR c g s)).sum = s * (absd f g).sum
  | [], [], [], _, _ => by simp [absd, mixR]
  | x :: c, y :: f, z :: g, h1, h2 => by
    have ih := absd_mix h (c := c) (f := f) (g := g) (by simpa using h1) (by simpa using h2)
    rw [mix_cons, mix_cons, absd_cons, absd_cons, List.sum_cons, List.sum_cons, ih]
    have e : (1 - s) * x + s * y - ((1 - s) * x + s * z) = s * (y - z) := by grind
    rw [e, abs_mul' h]; grind
theorem absd_mix2 {s : Rat} (h : 0 ≤ 1 - s) : ∀ {f g e : List Rat}, f.length = e.length → g.length = e.length → (absd (mixR f e s) (mixR g e s)).sum = (1 - s) * (absd f g).sum
  | [], [], [], _, _ => by simp [absd, mixR]
  | [], _ :: _, [], _, h2 => by simp at h2
  | [], _, _ :: _, h1, _ => by simp at h1
  | _ :: _, _, [], h1, _ => by simp at h1
  | _ :: _, [], _ :: _, _, h2 => by simp at h2
  | y :: f, z :: g, x :: e, h1, h2 => by
    have ih := absd_mix2 h (f := f) (g := g) (e := e) (by simpa using h1) (by simpa using h2)
    rw [mix_cons, mix_cons, absd_cons, absd_cons, List.sum_cons, List.sum_cons, ih]
    have e : (1 - s) * y + s * x - ((1 - s) * z + s * x) = (1 - s) * (y - z) := by grind
    rw [e, abs_mul' h]; grind
theorem absd_le : ∀ {f g : List Rat}, f.length = g.length → (∀ x ∈ f, 0 ≤ x) → (∀ x ∈ g, 0 ≤ x) → (absd f g).sum ≤ f.sum + g.sum
  | [], [], _, _, _ => by simp [absd]; grind
  | [], _ :: _, h, _, _ => by simp at h
  | _ :: _, [], h, _, _ => by simp at h
  | y :: f, z :: g, h, hf, hg => by
    have ih := absd_le (f := f) (g := g) (by simpa using h) (fun x hx => hf x (List.mem_cons_of_mem _ hx)) fun x hx => hg x (List.mem_cons_of_mem _ hx)
    have h1 := hf y List.mem_cons_self
    have h2 := hg z List.mem_cons_self
    have m : (y - z).abs ≤ y + z := abs_le' (by grind) (by grind)
    rw [absd_cons, List.sum_cons, List.sum_cons, List.sum_cons]; grind
theorem apart_mix {n : Nat} {c f g : List Rat} {s : Rat} (hc : ShL n c) (hf : ShL n f) (hg : ShL n g) (h0 : 0 ≤ s) : apartR (mixR c f s) (mixR c g s) ≤ s := by
  unfold apartR
  rw [absd_mix h0 (by rw [hc.1, hf.1]) (by rw [hc.1, hg.1])]
  have m := absd_le (f := f) (g := g) (by rw [hf.1, hg.1]) hf.2.1 hg.2.1
  rw [hf.2.2, hg.2.2] at m
  have m2 := mul_nn h0 (b := 2 - (absd f g).sum) (by grind)
  grind
theorem apart_mix2 {n : Nat} {f g e : List Rat} {s t : Rat} (hf : ShL n f) (hg : ShL n g) (he : ShL n e) (h0 : 0 ≤ s) (h1 : s ≤ 1) (h : apartR f g ≤ t) : apartR (mixR f e s) (mixR g e s) ≤ t := by
  unfold apartR at h ⊢
  rw [absd_mix2 (by grind) (by rw [hf.1, he.1]) (by rw [hg.1, he.1])]
  have m := mul_nn h0 (sum_nn (absd_nn (a := f) (b := g)))
  grind
/-! ### what the program tells -/
def idxOf (l : List Rat) (x : Rat) : Nat := l.findIdx fun y => decide (y = x)
theorem idxOf_get {l : List Rat} {x : Rat} (h : x ∈ l) : l[idxOf l x]? = some x ∧ idxOf l x < l.length ∧ ∀ (m : Nat) (y : Rat), m < idxOf l x → l[m]? = some y → y ≠ x := by
  have hlt : idxOf l x < l.length := List.findIdx_lt_length_of_exists ⟨x, h, by simp⟩
  refine ⟨?_, hlt, fun m y hm hy => ?_⟩
  · rw [List.getElem?_eq_getElem hlt]
    have := List.findIdx_getElem (p := fun y => decide (y = x)) (w := hlt)
    exact congrArg some (of_decide_eq_true this)
  · have := List.not_of_lt_findIdx hm
    have hml : m < l.length := by omega
    rw [List.getElem?_eq_getElem hml] at hy
    cases hy
    exact of_decide_eq_false (by simpa using this)
def nearAt (ps : Prs) : List Rat := atR ps.length (idxOf (gaps ps) (nearR ps))
def lowAt (ps : Prs) : List Rat := atR ps.length (idxOf (fsts ps) (leastR (fsts ps)))
def highAt (ps : Prs) : List Rat := atR ps.length (idxOf (snds ps) (greatR (snds ps)))
theorem sh_near {ps : Prs} (h : RsOk ps) : ShL ps.length (nearAt ps) := sh_at (by have := (idxOf_get (great_mem h.gn)).2.1; rw [gaps_len] at this; exact this)
theorem sh_low {ps : Prs} (h : RsOk ps) : ShL ps.length (lowAt ps) := sh_at (by have := (idxOf_get (least_mem h.fn)).2.1; rw [fsts_len] at this; exact this)
theorem sh_high {ps : Prs} (h : RsOk ps) : ShL ps.length (highAt ps) := sh_at (by have := (idxOf_get (great_mem h.sn)).2.1; rw [snds_len] at this; exact this)
def wOne (ps : Prs) (s : Rat) : List Rat := mixR (nearAt ps) (lowAt ps) s
def wTwo (ps : Prs) (s : Rat) : List Rat := mixR (nearAt ps) (highAt ps) s
theorem gap_w {ps : Prs} (h : RsOk ps) {s : Rat} : gapR ps (wOne ps s) (wTwo ps s) = wgap ps s := by
  unfold gapR wOne wTwo
  rw [dot_mix (by rw [(sh_near h).1, (sh_high h).1]), dot_mix (by rw [(sh_near h).1, (sh_low h).1])]
  have e := dot_gaps (ps := ps) (sh_near h).1
  have e1 : dotR (nearAt ps) (gaps ps) = nearR ps := dot_at gaps_len (idxOf_get (great_mem h.gn)).1
  have e2 : dotR (lowAt ps) (fsts ps) = leastR (fsts ps) := dot_at fsts_len (idxOf_get (least_mem h.fn)).1
  have e3 : dotR (highAt ps) (snds ps) = greatR (snds ps) := dot_at snds_len (idxOf_get (great_mem h.sn)).1
  unfold wgap roomR
  rw [e2, e3]
  rw [e1] at e
  grind
/-! ### alike for all -/
def evenR (n : Nat) : List Rat := List.replicate n (Rat.divInt 1 n)
theorem div_one {n : Nat} (h : 0 < n) : Rat.divInt 1 n * (n : Rat) = 1 := by
  rw [Rat.divInt_eq_div, Rat.intCast_natCast]
  have p := natR_pos h
  have p2 : (n : Rat) ≠ 0 := by grind
  have : ((1 : Int) : Rat) = 1 := rfl
  rw [this]
  grind
theorem sum_rep {x : Rat} : ∀ n : Nat, (List.replicate n x).sum = (n : Rat) * x
  | 0 => by simp
  | n + 1 => by
    rw [List.replicate_succ, List.sum_cons, sum_rep n, Rat.natCast_add]
    have : ((1 : Nat) : Rat) = 1 := rfl
    rw [this]; grind
theorem even_pos {n : Nat} (h : 0 < n) : 0 < Rat.divInt 1 n := by
  have e := div_one h
  have p := natR_pos h
  rcases (Rat.le_total : (0 : Rat) ≤ Rat.divInt 1 n ∨ Rat.divInt 1 n ≤ 0) with q | q
  · rcases Rat.le_iff_lt_or_eq.mp q with q | q
    · exact q
    · rw [← q] at e; grind
  · have m := mul_nn (a := -Rat.divInt 1 n) (b := (n : Rat)) (by grind) (by grind)
    grind
theorem sh_even {n : Nat} (h : 0 < n) : ShL n (evenR n) := ⟨List.length_replicate, fun x hx => by rw [List.eq_of_mem_replicate hx]; exact Rat.le_of_lt (even_pos h), by unfold evenR; rw [sum_rep, Rat.mul_comm]; exact div_one h⟩
def lowR (ps : Prs) : Rat := gapR ps (evenR ps.length) (evenR ps.length)
theorem low_lt {ps : Prs} (h : RsOk ps) : lowR ps < 0 := by
  have he := sh_even (n := ps.length) h.l1
  have e := dot_gaps (ps := ps) he.1
  have b1 : dotR (evenR ps.length) (gaps ps) ≤ nearR ps * (evenR ps.length).sum := dot_le (by rw [he.1, gaps_len]) he.2.1 fun y hy => le_great hy
  rw [he.2.2] at b1
  have := near_lt h
  unfold lowR gapR
  grind
/-- the share of the even make-up -/
def shareR (ps : Prs) (s : Rat) : Rat := wgap ps s / (2 * (wgap ps s - lowR ps))
theorem div_mul' {a b : Rat} (h : b ≠ 0) : a / b * b = a := by grind
theorem share_facts {ps : Prs} (h : RsOk ps) {s : Rat} (hg : 0 < wgap ps s) : 0 < shareR ps s ∧ shareR ps s < 1 ∧ shareR ps s * (2 * (wgap ps s - lowR ps)) = wgap ps s := by
  have hl := low_lt h
  have hne : (2 * (wgap ps s - lowR ps)) ≠ 0 := by grind
  have e : shareR ps s * (2 * (wgap ps s - lowR ps)) = wgap ps s := div_mul' hne
  generalize shareR ps s = t at e
  generalize hG : wgap ps s = g at *
  generalize lowR ps = l at *
  have e2 : t * (2 * (g - l)) = g := e
  refine ⟨?_, ?_, e⟩
  · rcases (Rat.le_total : (0 : Rat) ≤ t ∨ t ≤ 0) with q | q
    · rcases Rat.le_iff_lt_or_eq.mp q with q | q
      · exact q
      · rw [← q] at e2; grind
    · have m := mul_nn (a := -t) (b := 2 * (g - l)) (by grind) (by grind)
      grind
  · rcases (Rat.le_total : (1 : Rat) ≤ t ∨ t ≤ 1) with q | q
    · have m := mul_nn (a := t - 1) (b := 2 * (g - l)) (by grind) (by grind)
      grind
    · rcases Rat.le_iff_lt_or_eq.mp q with q | q
      · exact q
      · rw [q] at e2; grind
def tOne (ps : Prs) (s : Rat) : List Rat := mixR (wOne ps s) (evenR ps.length) (shareR ps s)
def tTwo (ps : Prs) (s : Rat) : List Rat := mixR (wTwo ps s) (evenR ps.length) (shareR ps s)
theorem sh_w1 {ps : Prs} (h : RsOk ps) {s : Rat} (h0 : 0 ≤ s) (h1 : s ≤ 1) : ShL ps.length (wOne ps s) := (sh_near h).mix (sh_low h) h0 h1
theorem sh_w2 {ps : Prs} (h : RsOk ps) {s : Rat} (h0 : 0 ≤ s) (h1 : s ≤ 1) : ShL ps.length (wTwo ps s) := (sh_near h).mix (sh_high h) h0 h1
theorem pos_mix {n : Nat} {a : List Rat} {t : Rat} (ha : ShL n a) (hn : 0 < n) (h0 : 0 < t) (h1 : t < 1) : ∀ x ∈ mixR a (evenR n) t, 0 < x := fun x hx => by
  obtain ⟨⟨u, v⟩, hp, rfl⟩ := List.mem_map.mp hx
  have m1 := mul_nn (a := 1 - t) (b := u) (by grind) (ha.2.1 u (List.of_mem_zip hp).1)
  have e : v = Rat.divInt 1 n := List.eq_of_mem_replicate (List.of_mem_zip hp).2
  have m2 : 0 < t * v := Rat.mul_pos h0 (by rw [e]; exact even_pos hn)
  show 0 < (1 - t) * u + t * v
  grind
theorem told_facts {ps : Prs} (h : RsOk ps) {s : Rat} (h0 : 0 ≤ s) (h1 : s ≤ 1) (hg : 0 < wgap ps s) :
    ShL ps.length (tOne ps s) ∧ ShL ps.length (tTwo ps s) ∧ (∀ x ∈ tOne ps s, 0 < x) ∧ (∀ x ∈ tTwo ps s, 0 < x) ∧ 0 < gapR ps (tOne ps s) (tTwo ps s) ∧ apartR (tOne ps s) (tTwo ps s) ≤ s := by
  obtain ⟨t0, t1, te⟩ := share_facts h hg
  have he := sh_even (n := ps.length) h.l1
  have w1 := sh_w1 h h0 h1
  have w2 := sh_w2 h h0 h1
  refine ⟨w1.mix he (by grind) (by grind), w2.mix he (by grind) (by grind), pos_mix w1 h.l1 t0 t1, pos_mix w2 h.l1 t0 t1, ?_, apart_mix2 w1 w2 he (by grind) (by grind) (apart_mix (sh_near h) (sh_low h) (sh_high h) h0)⟩
  unfold gapR tOne tTwo
  rw [dot_mix (by rw [w2.1, he.1]), dot_mix (by rw [w1.1, he.1])]
  have e1 := gap_w h (s := s)
  have e2 : lowR ps = gapR ps (evenR ps.length) (evenR ps.length) := rfl
  unfold gapR at e1 e2
  generalize shareR ps s = t at *
  generalize wgap ps s = g at *
  generalize lowR ps = l at *
  generalize dotR (wTwo ps s) (snds ps) = x1 at *
  generalize dotR (wOne ps s) (fsts ps) = x2 at *
  generalize dotR (evenR ps.length) (snds ps) = x3 at *
  generalize dotR (evenR ps.length) (fsts ps) = x4 at *
  have e3 : (1 - t) * x1 + t * x3 - ((1 - t) * x2 + t * x4) = (1 - t) * g + t * l := by rw [← e1, e2]; grind
  have e4 : 2 * ((1 - t) * g + t * l) = 2 * g - t * (2 * (g - l)) := by grind
  rw [te] at e4
  rw [e3]
  grind
end K60

set_option maxHeartbeats 1000000
/-! M61: sizes of what k60 works out. -/
namespace K60
open PySem PySem.Spec J
theorem bz_one : Bz 1 1 := by unfold Bz; decide
theorem bz_zero : Bz 1 0 := by unfold Bz; decide
theorem bz_two : Bz 2 2 := by unfold Bz; decide
theorem take_le {α : Type} {l : List α} {n : Nat} (h : l.length ≤ n) (i : Nat) : ∃ j, j ≤ n ∧ l.take i = l.take j := by
  by_cases q : i ≤ n
  · exact ⟨i, q, rfl⟩
  · exact ⟨n, Nat.le_refl n, by rw [List.take_of_length_le h, List.take_of_length_le (by omega)]⟩
theorem sum_bz {b : Nat} {l : List Rat} (h : ∀ x ∈ l, Bz b x) (hl : l.length ≤ 8) (hb : 8 * (b + 1) + 1 ≤ 4000) : SumOk l ∧ Bz (8 * (b + 1) + 1) l.sum := by
  have p : ∀ i, Bz (8 * (b + 1) + 1) (l.take i).sum := fun i => by
    obtain ⟨j, hj, e⟩ := take_le hl i
    rw [e]
    exact (bz_take (i := j) h).mono (by have : j * (b + 1) ≤ 8 * (b + 1) := Nat.mul_le_mul_right _ hj; omega)
  refine ⟨⟨fun x hx => (h x hx).mono (by omega), fun i => (p i).mono hb⟩, ?_⟩
  have := p l.length
  rwa [List.take_length] at this
theorem prods_len {a r : List Rat} {n : Nat} (h : a.length ≤ n) : (prods a r).length ≤ n := by unfold prods; rw [List.length_map]; exact zip_len h
theorem dot_bz {b : Nat} {ss rs : List Rat} (h1 : ∀ x ∈ ss, Bz b x) (h2 : ∀ x ∈ rs, Bz 8 x) (hl : ss.length ≤ 8) (hb : b ≤ 239) : DotOk ss rs ∧ Bz (8 * (b + 10) + 1) (dotR ss rs) := by
  have p : ∀ x ∈ prods ss rs, Bz (b + 9) x := fun x hx => by
    obtain ⟨⟨u, v⟩, hp, rfl⟩ := List.mem_map.mp hx
    exact (bz_mul (h1 u (List.of_mem_zip hp).1) (h2 v (List.of_mem_zip hp).2)).mono (by omega)
  obtain ⟨q1, q2⟩ := sum_bz p (prods_len hl) (by omega)
  exact ⟨⟨fun x hx => (h1 x hx).mono (by omega), fun x hx => (h2 x hx).mono (by omega), q1, by omega⟩, q2.mono (by omega)⟩
theorem mix_bz {p q m : Nat} {a b : List Rat} {s : Rat} (h1 : ∀ x ∈ a, Bz p x) (h2 : ∀ x ∈ b, Bz q x) (hs : Bz m s) : ∀ x ∈ mixR a b s, Bz (2 * m + p + q + 5) x := fun x hx => by
  obtain ⟨⟨u, v⟩, hp, rfl⟩ := List.mem_map.mp hx
  exact (bz_add (bz_mul (bz_sub bz_one hs) (h1 u (List.of_mem_zip hp).1)) (bz_mul hs (h2 v (List.of_mem_zip hp).2))).mono (by omega)
theorem abs_dR (r : Rat) : PyData.tuple [.int ((r.num.natAbs : Nat) : Int), .int (r.den : Int)] = dR r.abs := by
  rcases (Rat.le_total : (0 : Rat) ≤ r ∨ r ≤ 0) with q | q
  · rw [Rat.abs_of_nonneg q]
    have : 0 ≤ r.num := Rat.num_nonneg.mpr q
    rw [Int.natAbs_of_nonneg this]
  · rw [Rat.abs_of_nonpos q]
    have : r.num ≤ 0 := num_nonpos.mpr q
    have e : ((r.num.natAbs : Nat) : Int) = -r.num := by omega
    rw [e]
    show _ = PyData.tuple [.int (-r).num, .int ((-r).den : Int)]
    rw [Rat.neg_num, Rat.neg_den]
theorem bz_abs {b : Nat} {r : Rat} (h : Bz b r) : Bz b r.abs := by
  rcases (Rat.le_total : (0 : Rat) ≤ r ∨ r ≤ 0) with q | q
  · rw [Rat.abs_of_nonneg q]; exact h
  · rw [Rat.abs_of_nonpos q]; exact bz_neg h
theorem absd_bz {b : Nat} {f g : List Rat} (h1 : ∀ x ∈ f, Bz b x) (h2 : ∀ x ∈ g, Bz b x) : ∀ x ∈ absd f g, Bz (2 * b + 1) x := fun x hx => by
  obtain ⟨⟨u, v⟩, hp, rfl⟩ := List.mem_map.mp hx
  exact (bz_abs (bz_sub (h1 u (List.of_mem_zip hp).1) (h2 v (List.of_mem_zip hp).2))).mono (by omega)
theorem absd_len {f g : List Rat} {n : Nat} (h : f.length ≤ n) : (absd f g).length ≤ n := by unfold absd; rw [List.length_map]; exact zip_len h
/-! ### by common denominators -/
/-- between 0 and 1, of denominator D -/
def Fr (D : Nat) (x : Rat) : Prop := Dv D x ∧ 0 ≤ x ∧ x ≤ 1
theorem fr_sum {D : Nat} (hD : 0 < D) : ∀ {l : List Rat}, (∀ x ∈ l, Fr D x) → Dv D l.sum ∧ 0 ≤ l.sum ∧ l.sum ≤ (l.length : Rat)
  | [], _ => by
    rw [List.sum_nil]
    exact ⟨dv_zero hD, Rat.le_refl, Rat.natCast_nonneg⟩
  | x :: l, h => by
    obtain ⟨a, b, c⟩ := fr_sum hD (l := l) fun y hy => h y (List.mem_cons_of_mem _ hy)
    obtain ⟨p, q, r⟩ := h x List.mem_cons_self
    rw [List.sum_cons, List.length_cons, Rat.natCast_add]
    have : ((1 : Nat) : Rat) = 1 := rfl
    exact ⟨dv_add p a, by grind, by rw [this]; grind⟩
theorem fr_bz {D c B : Nat} {r : Rat} (h : Dv D r) (h0 : 0 ≤ r) (h1 : r ≤ (c : Rat)) (hB : 0 < B) (hD : c * D < 2 ^ B) (hD2 : D < 2 ^ B) : Bz B r := bz_dv h (by have : (0 : Rat) ≤ (c : Rat) := Rat.natCast_nonneg; grind) h1 hB hD hD2
theorem sum_fr {D B : Nat} {l : List Rat} (hD : 8 * D < 2 ^ B) (hB : 0 < B) (hB4 : B ≤ 4000) (h0 : 0 < D) (h : ∀ x ∈ l, Fr D x) (hl : l.length ≤ 8) : SumOk l ∧ Bz B l.sum := by
  have p : ∀ i, Bz B (l.take i).sum := fun i => by
    obtain ⟨a, b, c⟩ := fr_sum h0 (l := l.take i) fun y hy => h y (List.mem_of_mem_take hy)
    refine fr_bz (c := 8) a b ?_ hB hD (by omega)
    have : ((l.take i).length : Rat) ≤ ((8 : Nat) : Rat) := Rat.natCast_le_natCast.mpr (by rw [List.length_take]; omega)
    grind
  refine ⟨⟨fun x hx => ?_, fun i => (p i).mono hB4⟩, ?_⟩
  · obtain ⟨a, b, c⟩ := h x hx
    exact (fr_bz (c := 1) a b c hB (by omega) (by omega)).mono hB4
  · have := p l.length
    rwa [List.take_length] at this
def denP : List Rat → Nat
  | [] => 1
  | x :: l => x.den * denP l
theorem denP_pos : ∀ l : List Rat, 0 < denP l
  | [] => by decide
  | x :: l => Nat.mul_pos (Nat.pos_of_ne_zero x.den_nz) (denP_pos l)
theorem denP_dv : ∀ {l : List Rat} {x : Rat}, x ∈ l → Dv (denP l) x
  | y :: l, x, h => by
    rcases List.mem_cons.mp h with e | e
    · subst e; exact dv_up (dv_den x) (denP_pos l)
    · exact dv_up' (denP_dv e) (Nat.pos_of_ne_zero y.den_nz)
theorem denP_lt : ∀ {l : List Rat}, (∀ x ∈ l, Bz 8 x) → denP l ≤ 2 ^ (8 * l.length)
  | [], _ => by decide
  | y :: l, h => by
    have ih := denP_lt (l := l) fun x hx => h x (List.mem_cons_of_mem _ hx)
    have := (h y List.mem_cons_self).2
    have e : 2 ^ (8 * (y :: l).length) = 2 ^ 8 * 2 ^ (8 * l.length) := by rw [List.length_cons, Nat.mul_add, Nat.add_comm, Nat.pow_add]
    rw [e]
    exact Nat.mul_le_mul (by omega) ih
theorem dot_fr {D C : Nat} {ss rs : List Rat} (h0 : 0 < D) (hD : D < 2 ^ C) (hC : C + 67 ≤ 4000) (h1 : ∀ x ∈ ss, Fr D x) (h2 : ∀ x ∈ rs, Bz 8 x ∧ 0 ≤ x ∧ x ≤ 1) (hl : ss.length ≤ 8) (hr : rs.length ≤ 8) : DotOk ss rs ∧ Bz (C + 67) (dotR ss rs) := by
  have hR : denP rs ≤ 2 ^ 64 := Nat.le_trans (denP_lt fun x hx => (h2 x hx).1) (Nat.pow_le_pow_right (by decide) (by omega))
  have big : 8 * (D * denP rs) < 2 ^ (C + 67) := by
    have h3 : D * denP rs ≤ D * 2 ^ 64 := Nat.mul_le_mul_left _ hR
    have h4 : D * 2 ^ 64 < 2 ^ C * 2 ^ 64 := Nat.mul_lt_mul_of_pos_right hD (by decide)
    have e : 2 ^ (C + 67) = 8 * (2 ^ C * 2 ^ 64) := by rw [Nat.pow_add, show (67 : Nat) = 64 + 3 from rfl, Nat.pow_add]; omega
    omega
  have p : ∀ x ∈ prods ss rs, Fr (D * denP rs) x := fun x hx => by
    obtain ⟨⟨u, v⟩, hp, rfl⟩ := List.mem_map.mp hx
    obtain ⟨a, b, c⟩ := h1 u (List.of_mem_zip hp).1
    obtain ⟨_, b2, c2⟩ := h2 v (List.of_mem_zip hp).2
    have m := mul_nn b (b := 1 - v) (by grind)
    exact ⟨dv_mul a (denP_dv (List.of_mem_zip hp).2), mul_nn b b2, by show u * v ≤ 1; grind⟩
  obtain ⟨q1, q2⟩ := sum_fr big (by omega) hC (Nat.mul_pos h0 (denP_pos rs)) p (prods_len hl)
  refine ⟨⟨fun x hx => ?_, fun x hx => (h2 x hx).1.mono (by decide), q1, by omega⟩, q2⟩
  obtain ⟨a, b, c⟩ := h1 x hx
  have : D ≤ D * denP rs := Nat.le_mul_of_pos_right _ (denP_pos rs)
  exact (fr_bz (B := C + 67) (c := 1) a b c (by omega) (by omega) (by omega)).mono hC
/-! ### of k60 -/
structure SlOk (s : Rat) : Prop where
  lo : 0 ≤ s
  hi : s ≤ 1
  bz : Bz 60 s
theorem RsOk.fb {ps : Prs} (h : RsOk ps) : ∀ x ∈ fsts ps, Bz 8 x ∧ 0 ≤ x ∧ x ≤ 1 := fun x hx => by
  obtain ⟨p, hp, rfl⟩ := List.mem_map.mp hx
  obtain ⟨a, b, c, d, e⟩ := h.el p hp
  exact ⟨d, by grind, c⟩
theorem RsOk.sb {ps : Prs} (h : RsOk ps) : ∀ x ∈ snds ps, Bz 8 x ∧ 0 ≤ x ∧ x ≤ 1 := fun x hx => by
  obtain ⟨p, hp, rfl⟩ := List.mem_map.mp hx
  obtain ⟨a, b, c, d, e⟩ := h.el p hp
  exact ⟨e, a, by grind⟩
theorem RsOk.gb {ps : Prs} (h : RsOk ps) : ∀ x ∈ gaps ps, Bz 17 x := fun x hx => by
  obtain ⟨p, hp, rfl⟩ := List.mem_map.mp hx
  obtain ⟨a, b, c, d, e⟩ := h.el p hp
  exact bz_sub e d
theorem near_bz {ps : Prs} (h : RsOk ps) : Bz 17 (nearR ps) := h.gb _ (great_mem h.gn)
theorem room_bz {ps : Prs} (h : RsOk ps) : Bz 17 (roomR ps) := bz_sub (h.sb _ (great_mem h.sn)).1 (h.fb _ (least_mem h.fn)).1
theorem wgap_bz {ps : Prs} (h : RsOk ps) {s : Rat} (hs : SlOk s) : Bz 159 (wgap ps s) := (bz_add (bz_mul (bz_sub bz_one hs.bz) (near_bz h)) (bz_mul hs.bz (room_bz h))).mono (by decide)
theorem at_bz {n i : Nat} : ∀ x ∈ atR n i, Bz 1 x := fun x hx => by rcases at_mem hx with e | e <;> rw [e]; exact bz_zero; exact bz_one
theorem w1_bz {ps : Prs} {s : Rat} (hs : SlOk s) : ∀ x ∈ wOne ps s, Bz 127 x := fun x hx => (mix_bz at_bz at_bz hs.bz x hx).mono (by decide)
theorem w2_bz {ps : Prs} {s : Rat} (hs : SlOk s) : ∀ x ∈ wTwo ps s, Bz 127 x := fun x hx => (mix_bz at_bz at_bz hs.bz x hx).mono (by decide)
theorem even_bz {n : Nat} (h : 0 < n) (h8 : n ≤ 8) : ∀ x ∈ evenR n, Bz 4 x := fun x hx => by
  rw [List.eq_of_mem_replicate hx]
  exact bz_of (by omega) (by decide) (by decide) (by rw [Int.natAbs_natCast]; omega)
theorem low_bz {ps : Prs} (h : RsOk ps) : Bz 227 (lowR ps) :=
  (bz_sub (dot_bz (even_bz h.l1 h.l8) (fun x hx => (h.sb x hx).1) (by unfold evenR; rw [List.length_replicate]; exact h.l8) (by decide)).2 (dot_bz (even_bz h.l1 h.l8) (fun x hx => (h.fb x hx).1) (by unfold evenR; rw [List.length_replicate]; exact h.l8) (by decide)).2).mono (by decide)
theorem share_bz {ps : Prs} (h : RsOk ps) {s : Rat} (hs : SlOk s) : Bz 550 (shareR ps s) := (bz_div (wgap_bz h hs) (bz_mul bz_two (bz_sub (wgap_bz h hs) (low_bz h))) (by decide)).mono (by decide)
theorem mix_dv {D E F : Nat} {a b : List Rat} {s : Rat} (hE : 0 < E) (hF : 0 < F) (h1 : ∀ x ∈ a, Dv E x) (h2 : ∀ x ∈ b, Dv F x) (hs : Dv D s) : ∀ x ∈ mixR a b s, Dv (D * (E * F)) x := fun x hx => by
  obtain ⟨⟨u, v⟩, hp, rfl⟩ := List.mem_map.mp hx
  have d1 := dv_mul (dv_sub (dv_one hs.1) hs) (dv_up (h1 u (List.of_mem_zip hp).1) hF)
  have d2 := dv_mul hs (dv_up' (h2 v (List.of_mem_zip hp).2) hE)
  exact dv_add d1 d2
theorem sh_fr {n D : Nat} {l : List Rat} (h : ShL n l) (hd : ∀ x ∈ l, Dv D x) : ∀ x ∈ l, Fr D x := fun x hx => ⟨hd x hx, h.2.1 x hx, h.le hx⟩
/-- the denominator of what is told -/
def tDen (ps : Prs) (s : Rat) : Nat := (shareR ps s).den * ((s.den * (1 * 1)) * ps.length)
theorem tDen_pos {ps : Prs} (h : RsOk ps) (s : Rat) : 0 < tDen ps s := Nat.mul_pos (Nat.pos_of_ne_zero (Rat.den_nz _)) (Nat.mul_pos (Nat.mul_pos (Nat.pos_of_ne_zero s.den_nz) (by decide)) h.l1)
theorem tDen_lt {ps : Prs} (h : RsOk ps) {s : Rat} (hs : SlOk s) : tDen ps s < 2 ^ 614 := by
  have h1 := (share_bz h hs).2
  have h2 := hs.bz.2
  have h3 := h.l8
  have e : tDen ps s ≤ 2 ^ 550 * ((2 ^ 60 * (1 * 1)) * 2 ^ 3) := Nat.mul_le_mul (by omega) (Nat.mul_le_mul (Nat.mul_le_mul (by omega) (Nat.le_refl _)) (by omega))
  refine Nat.lt_of_le_of_lt e ?_
  rw [Nat.mul_one, ← Nat.pow_add, ← Nat.pow_add]
  exact Nat.pow_lt_pow_right (by decide) (by decide)
theorem at_dv {n i : Nat} : ∀ x ∈ atR n i, Dv 1 x := fun x hx => by rcases at_mem hx with e | e <;> rw [e]; exact dv_zero (by decide); exact dv_one (by decide)
theorem even_dv {n : Nat} (h : 0 < n) : ∀ x ∈ evenR n, Dv n x := fun x hx => by
  rw [List.eq_of_mem_replicate hx]
  exact ⟨h, 1, div_one h⟩
theorem t1_fr {ps : Prs} (h : RsOk ps) {s : Rat} (hs : SlOk s) (hg : 0 < wgap ps s) : ∀ x ∈ tOne ps s, Fr (tDen ps s) x :=
  sh_fr (told_facts h hs.lo hs.hi hg).1 (mix_dv (Nat.mul_pos (Nat.pos_of_ne_zero s.den_nz) (by decide)) h.l1 (mix_dv (by decide) (by decide) at_dv at_dv (dv_den s)) (even_dv h.l1) (dv_den _))
theorem t2_fr {ps : Prs} (h : RsOk ps) {s : Rat} (hs : SlOk s) (hg : 0 < wgap ps s) : ∀ x ∈ tTwo ps s, Fr (tDen ps s) x :=
  sh_fr (told_facts h hs.lo hs.hi hg).2.1 (mix_dv (Nat.mul_pos (Nat.pos_of_ne_zero s.den_nz) (by decide)) h.l1 (mix_dv (by decide) (by decide) at_dv at_dv (dv_den s)) (even_dv h.l1) (dv_den _))
theorem absd_fr {D : Nat} {f g : List Rat} (h1 : ∀ x ∈ f, Fr D x) (h2 : ∀ x ∈ g, Fr D x) : ∀ x ∈ absd f g, Fr D x := fun x hx => by
  obtain ⟨⟨u, v⟩, hp, rfl⟩ := List.mem_map.mp hx
  obtain ⟨a1, b1, c1⟩ := h1 u (List.of_mem_zip hp).1
  obtain ⟨a2, b2, c2⟩ := h2 v (List.of_mem_zip hp).2
  exact ⟨dv_abs (dv_sub a1 a2), Rat.abs_nonneg, abs_le' (by show u - v ≤ 1; grind) (by show -(u - v) ≤ 1; grind)⟩
/-- what is told can be worked with -/
theorem told_ok {ps : Prs} (h : RsOk ps) {s : Rat} (hs : SlOk s) (hg : 0 < wgap ps s) : SumOk (tOne ps s) ∧ SumOk (tTwo ps s) ∧ SumOk (absd (tOne ps s) (tTwo ps s)) ∧ DotOk (tOne ps s) (fsts ps) ∧ DotOk (tTwo ps s) (snds ps) ∧ Bz 4000 (dotR (tOne ps s) (fsts ps)) ∧ Bz 4000 (dotR (tTwo ps s) (snds ps)) ∧ Bz 4000 (gapR ps (tOne ps s) (tTwo ps s)) ∧ Bz 4000 (apartR (tOne ps s) (tTwo ps s)) := by
  have f1 := t1_fr h hs hg
  have f2 := t2_fr h hs hg
  have p0 := tDen_pos h s
  have lt := tDen_lt h hs
  obtain ⟨s1, s2, _⟩ := told_facts h hs.lo hs.hi hg
  have l1 := s1.1
  have l2 := s2.1
  have h8 := h.l8
  have big : 8 * tDen ps s < 2 ^ 617 := by
    have e : 2 ^ 617 = 8 * 2 ^ 614 := by rw [show (617 : Nat) = 3 + 614 from rfl, Nat.pow_add]
    omega
  have d1 := dot_fr p0 lt (by decide) f1 h.fb (by omega) (by rw [fsts_len]; omega)
  have d2 := dot_fr p0 lt (by decide) f2 h.sb (by omega) (by rw [snds_len]; omega)
  have a := sum_fr big (by decide) (by decide) p0 (absd_fr f1 f2) (absd_len (by omega))
  exact ⟨(sum_fr big (by decide) (by decide) p0 f1 (by omega)).1, (sum_fr big (by decide) (by decide) p0 f2 (by omega)).1, a.1, d1.1, d2.1, d1.2.mono (by decide), d2.2.mono (by decide), (bz_sub d2.2 d1.2).mono (by decide), (bz_mul (show Bz 2 (1 / 2) by unfold Bz; decide +kernel) a.2).mono (by decide)⟩
end K60

set_option maxHeartbeats 4000000
namespace K60
open PySem PySem.Spec PyProof.Rows L2 J Evl
variable {P : Program} {w : World} {K : PySem.W.Frag} {mg : Str → Option Value} {base : Heap}
theorem fd_firsts (T : Tx K mg) : Fd CX0 P w K mg base 1 "firsts" ["rates"] (spD K 1 fun ds r => ∃ ps : Prs, ds = [psD ps] ∧ ps.length ≤ 8 ∧ r = .list ((fsts ps).map dR)) := by
  obtain ⟨fd, F, hm⟩ := T.f_firsts
  refine fd_mk F hm (ok_D F sc_firsts rfl fun cdv A outer s H E M vs ds d D' hr hl hR S k _ => ?_) (fun _ _ _ _ _ _ us hl => match us, hl with | [_], _ => rfl)
  obtain ⟨ps, rfl, h8, rfl⟩ := hR
  refine sy_ret S (Jd.is (Jn.jd (sy_lcM (g := pD) S (jw_tup (S.at 0)) (fun p => dR p.1) (by omega) (fun d ρ => match d with | .tuple [x, y] => (ρ.set 1 (some (.dat x))).set 2 (some (.dat y)) | _ => ρ) (js := [1, 2]) (own := [("one", 1), ("other", 2)]) (by simp) ?_ ?_ (blkOk_by (by rfl)) rfl sc_firsts.nd)) (by unfold fsts; rw [List.map_map]; rfl)) fun v H' x _ p => k v H' x p
  · rintro _ d ⟨s, H, C, cl, fp, rfl⟩ _
    exact jg_tup rfl (jgs_cons (jg_name 1 sc_firsts.nd) (jgs_cons (jg_name 2 sc_firsts.nd) jgs_nil))
  · rintro i x _ B' M' σ' H' hx ⟨s, H, C, cl, fp, rfl⟩ S'
    exact S'.at 1
theorem fd_seconds (T : Tx K mg) : Fd CX0 P w K mg base 1 "seconds" ["rates"] (spD K 1 fun ds r => ∃ ps : Prs, ds = [psD ps] ∧ ps.length ≤ 8 ∧ r = .list ((snds ps).map dR)) := by
  obtain ⟨fd, F, hm⟩ := T.f_seconds
  refine fd_mk F hm (ok_D F sc_seconds rfl fun cdv A outer s H E M vs ds d D' hr hl hR S k _ => ?_) (fun _ _ _ _ _ _ us hl => match us, hl with | [_], _ => rfl)
  obtain ⟨ps, rfl, h8, rfl⟩ := hR
  refine sy_ret S (Jd.is (Jn.jd (sy_lcM (g := pD) S (jw_tup (S.at 0)) (fun p => dR p.2) (by omega) (fun d ρ => match d with | .tuple [x, y] => (ρ.set 1 (some (.dat x))).set 2 (some (.dat y)) | _ => ρ) (js := [1, 2]) (own := [("one", 1), ("other", 2)]) (by simp) ?_ ?_ (blkOk_by (by rfl)) rfl sc_seconds.nd)) (by unfold snds; rw [List.map_map]; rfl)) fun v H' x _ p => k v H' x p
  · rintro _ d ⟨s, H, C, cl, fp, rfl⟩ _
    exact jg_tup rfl (jgs_cons (jg_name 1 sc_seconds.nd) (jgs_cons (jg_name 2 sc_seconds.nd) jgs_nil))
  · rintro i x _ B' M' σ' H' hx ⟨s, H, C, cl, fp, rfl⟩ S'
    exact S'.at 2
theorem RsOk.b4 {ps : Prs} (h : RsOk ps) : (∀ x ∈ fsts ps, Bz 4000 x) ∧ (∀ x ∈ snds ps, Bz 4000 x) ∧ ∀ x ∈ gaps ps, Bz 4000 x := ⟨fun x hx => (h.fb x hx).1.mono (by decide), fun x hx => (h.sb x hx).1.mono (by decide), fun x hx => (h.gb x hx).mono (by decide)⟩
theorem fd_room_of (T : Tx K mg) : Fd CX0 P w K mg base 3 "room_of" ["rates"] (spD K 1 fun ds r => ∃ ps : Prs, ds = [psD ps] ∧ RsOk ps ∧ r = dR (roomR ps)) := by
  have W1 := fd_firsts (P := P) (w := w) (base := base) T
  have W2 := fd_seconds (P := P) (w := w) (base := base) T
  have W3 := fd_least_of (P := P) (w := w) (base := base) T
  have W4 := fd_greatest_of (P := P) (w := w) (base := base) T
  have W5 := fd_minus (P := P) (w := w) (base := base) T
  obtain ⟨fd, F, hm⟩ := T.f_room_of
  refine fd_mk F hm (ok_D F sc_room_of rfl fun cdv A outer s H E M vs ds d D' hr hl hR S k _ => ?_) (fun _ _ _ _ _ _ us hl => match us, hl with | [_], _ => rfl)
  obtain ⟨ps, rfl, h, rfl⟩ := hR
  exact sy_ret S (jd_call W5 (hr.mono (by decide)) (ja_cons (jd_call W4 (hr.mono (by decide)) (ja_cons (jd_call W2 (hr.mono (by decide)) (ja_cons (S.at 0) ja_nil) rfl ⟨ps, rfl, h.l8, rfl⟩) ja_nil) rfl ⟨_, rfl, h.sn, h.b4.2.1, rfl⟩)
    (ja_cons (jd_call W3 (hr.mono (by decide)) (ja_cons (jd_call W1 (hr.mono (by decide)) (ja_cons (S.at 0) ja_nil) rfl ⟨ps, rfl, h.l8, rfl⟩) ja_nil) rfl ⟨_, rfl, h.fn, h.b4.1, rfl⟩) ja_nil)) rfl ⟨_, _, rfl, h.b4.2.1 _ (great_mem h.sn), h.b4.1 _ (least_mem h.fn), rfl⟩) fun v H' x _ p => k v H' x p
/-- [minus(other, one) for one, other in rates] -/
theorem fd_nearest_gap (T : Tx K mg) : Fd CX0 P w K mg base 3 "nearest_gap" ["rates"] (spD K 1 fun ds r => ∃ ps : Prs, ds = [psD ps] ∧ RsOk ps ∧ r = dR (nearR ps)) := by
  have W4 := fd_greatest_of (P := P) (w := w) (base := base) T
  have W5 := fd_minus (P := P) (w := w) (base := base) T
  obtain ⟨fd, F, hm⟩ := T.f_nearest_gap
  refine fd_mk F hm (ok_D F sc_nearest_gap rfl fun cdv A outer s H E M vs ds d D' hr hl hR S k _ => ?_) (fun _ _ _ _ _ _ us hl => match us, hl with | [_], _ => rfl)
  obtain ⟨ps, rfl, h, rfl⟩ := hR
  refine sy_ret S (jd_call W4 (hr.mono (by decide)) (ja_cons (Jd.is (d' := .list ((gaps ps).map dR)) (Jn.jd (sy_lcM (g := pD) S (jw_tup (S.at 0)) (fun p => dR (p.2 - p.1)) (by have := h.l8; omega) (fun d ρ => match d with | .tuple [x, y] => (ρ.set 1 (some (.dat x))).set 2 (some (.dat y)) | _ => ρ) (js := [1, 2]) (own := [("one", 1), ("other", 2)]) (by simp) ?_ ?_ (blkOk_by (by rfl)) rfl sc_nearest_gap.nd)) (by unfold gaps; rw [List.map_map]; rfl)) ja_nil) rfl ⟨_, rfl, h.gn, h.b4.2.2, rfl⟩) fun v H' x _ p => k v H' x p
  · rintro _ d ⟨s, H, C, cl, fp, rfl⟩ _
    exact jg_tup rfl (jgs_cons (jg_name 1 sc_nearest_gap.nd) (jgs_cons (jg_name 2 sc_nearest_gap.nd) jgs_nil))
  · rintro i x _ B' M' σ' H' hx ⟨s, H, C, cl, fp, rfl⟩ S'
    obtain ⟨a, b, c, d, e⟩ := h.el x (List.mem_of_getElem? hx)
    exact jd_call W5 (hr.mono (by decide)) (ja_cons (S'.at 2) (ja_cons (S'.at 1) ja_nil)) rfl ⟨x.2, x.1, rfl, e.mono (by decide), d.mono (by decide), rfl⟩
theorem rg_eq {n : Nat} : (List.range n).map (fun k : Nat => PyData.int (0 + (k : Int))) = rgD 0 ((n : Int)).toNat := by simp [rgD]
theorem fd_at_one (T : Tx K mg) : Fd CX0 P w K mg base 1 "at_one" ["many", "spot"] (spD K 2 fun ds r => ∃ n i : Nat, ds = [.int n, .int i] ∧ n ≤ 1000 ∧ r = rT (atR n i)) := by
  obtain ⟨fd, F, hm⟩ := T.f_at_one
  refine fd_mk F hm (ok_D F sc_at_one rfl fun cdv A outer s H E M vs ds d D' hr hl hR S k _ => ?_) (fun _ _ _ _ _ _ us hl => match us, hl with | [_, _], _ => rfl)
  obtain ⟨n, i, rfl, hn, rfl⟩ := hR
  refine sy_ret S (Jd.is (jd_tupOf T.n_tuple (Jn.jd (sy_lcM (g := fun k : Nat => .int (0 + (k : Int))) (xs := List.range n) S (by rw [rg_eq]; exact jw_rng1 (n := (n : Int)) T.n_range (S.at 0) (by omega)) (fun k : Nat => dR (if k = i then 1 else 0)) (by simp; omega) (fun d ρ => ρ.set 2 (some (.dat d))) (js := [2]) (own := [("at", 2)]) (by simp) ?_ ?_ (blkOk_by (by rfl)) rfl sc_at_one.nd))) (by unfold rT atR; rw [List.map_map]; rfl)) fun v H' x _ p => k v H' x p
  · rintro _ d ⟨s, H, C, cl, fp, rfl⟩ _
    exact jg_name 2 sc_at_one.nd
  · rintro j x _ B' M' σ' H' hx ⟨s, H, C, cl, fp, rfl⟩ S'
    refine jd_if (jt_eqI (S'.at 2) (S'.at 1)) (fun h => Jd.is (jd_tup (ja_cons jd_int (ja_cons jd_int ja_nil))) ?_) fun h => Jd.is (jd_tup (ja_cons jd_int (ja_cons jd_int ja_nil))) ?_
    · have := of_decide_eq_true h
      rw [if_pos (by omega)]; rfl
    · have := of_decide_eq_false h
      rw [if_neg (by omega)]; rfl
theorem one_dR : dR 1 = .tuple [.int 1, .int 1] := rfl
/-- few parts, of not too many bits -/
def El (l : List Rat) : Prop := l.length ≤ 8 ∧ ∀ x ∈ l, Bz 1000 x
theorem fd_mixed (T : Tx K mg) : Fd CX0 P w K mg base 3 "mixed" ["one", "other", "share"] (spD K 3 fun ds r => ∃ (a b : List Rat) (s : Rat), ds = [rT a, rT b, dR s] ∧ El a ∧ El b ∧ Bz 1000 s ∧ r = rT (mixR a b s)) := by
  have W1 := fd_minus (P := P) (w := w) (base := base) T
  have W2 := fd_plus (P := P) (w := w) (base := base) T
  have W3 := fd_times (P := P) (w := w) (base := base) T
  obtain ⟨fd, F, hm⟩ := T.f_mixed
  refine fd_mk F hm (ok_D F sc_mixed rfl fun cdv A outer st H E M vs ds d D' hr hl hR S k _ => ?_) (fun _ _ _ _ _ _ us hl => match us, hl with | [_, _, _], _ => rfl)
  obtain ⟨a, b, s, rfl, ha, hb, hs, rfl⟩ := hR
  have b1 : Bz 4000 s := hs.mono (by decide)
  have b2 : Bz 1002 (1 - s) := (bz_sub bz_one hs).mono (by decide)
  refine sy_set 3 S (d := dR (1 - s)) (jd_call W1 (hr.mono (by decide)) (ja_cons (jd_glob T.c_ONE.1 (v := .ref (He.ga K "ONE")) (d := dR 1) rfl (.tup (T.c_ONE.2 _) (.cons (.int 1) (.cons (.int 1) .nil)))) (ja_cons (S.at 2) ja_nil)) rfl ⟨1, s, rfl, bz_one.mono (by decide), b1, rfl⟩) (fun σ1 H1 S1 => ?_) sc_mixed.nd
  refine sy_ret S1 (Jd.is (jd_tupOf T.n_tuple (Jn.jd (sy_lcM (xs := a.zip b) (g := fun p => .tuple [dR p.1, dR p.2]) S1 (by rw [← zipD_map]; exact jw_zipB (b1 := true) (b2 := true) T.n_zip (S1.at 0) (S1.at 1)) (fun p => dR ((1 - s) * p.1 + s * p.2)) (zip_len (by have := ha.1; omega)) (fun d ρ => match d with | .tuple [x, y] => (ρ.set 4 (some (.dat x))).set 5 (some (.dat y)) | _ => ρ) (js := [4, 5]) (own := [("first", 4), ("second", 5)]) (by simp) ?_ ?_ (blkOk_by (by rfl)) rfl sc_mixed.nd))) (by unfold rT mixR; rw [List.map_map]; rfl)) fun v H' x _ p => k v H' x p
  · rintro _ d ⟨s, H, C, cl, fp, rfl⟩ _
    exact jg_tup rfl (jgs_cons (jg_name 4 sc_mixed.nd) (jgs_cons (jg_name 5 sc_mixed.nd) jgs_nil))
  · rintro i ⟨x, y⟩ _ B' M' σ' H' hx ⟨s2, H, C, cl, fp, rfl⟩ S'
    have m := List.mem_of_getElem? hx
    have hx := ha.2 x (List.of_mem_zip m).1
    have hy := hb.2 y (List.of_mem_zip m).2
    exact jd_call W2 (hr.mono (by decide)) (ja_cons (jd_call W3 (hr.mono (by decide)) (ja_cons (S'.at 3) (ja_cons (S'.at 4) ja_nil)) rfl ⟨1 - s, x, rfl, b2.mono (by decide), hx.mono (by decide), rfl⟩) (ja_cons (jd_call W3 (hr.mono (by decide)) (ja_cons (S'.at 2) (ja_cons (S'.at 5) ja_nil)) rfl ⟨s, y, rfl, b1, hy.mono (by decide), rfl⟩) ja_nil)) rfl ⟨_, _, rfl, (bz_mul b2 hx).mono (by decide), (bz_mul hs hy).mono (by decide), rfl⟩
end K60

set_option maxHeartbeats 4000000
namespace K60
open PySem PySem.Spec PyProof.Rows L2 J Evl
variable {P : Program} {w : World} {K : PySem.W.Frag} {mg : Str → Option Value} {base : Heap}
theorem fd_gap_of (T : Tx K mg) : Fd CX0 P w K mg base 5 "gap_of" ["rates", "pair"] (spD K 2 fun ds r => ∃ (ps : Prs) (a b : List Rat), ds = [psD ps, .tuple [rT a, rT b]] ∧ RsOk ps ∧ (DotOk a (fsts ps) ∧ Bz 4000 (dotR a (fsts ps))) ∧ (DotOk b (snds ps) ∧ Bz 4000 (dotR b (snds ps))) ∧ r = dR (gapR ps a b)) := by
  have W1 := fd_firsts (P := P) (w := w) (base := base) T
  have W2 := fd_seconds (P := P) (w := w) (base := base) T
  have W3 := fd_mean_of (P := P) (w := w) (base := base) T
  have W5 := fd_minus (P := P) (w := w) (base := base) T
  obtain ⟨fd, F, hm⟩ := T.f_gap_of
  refine fd_mk F hm (ok_D F sc_gap_of rfl fun cdv A outer s H E M vs ds d D' hr hl hR S k _ => ?_) (fun _ _ _ _ _ _ us hl => match us, hl with | [_, _], _ => rfl)
  obtain ⟨ps, a, b, rfl, h, ⟨ha, ha2⟩, ⟨hb, hb2⟩, rfl⟩ := hR
  exact sy_ret S (jd_call W5 (hr.mono (by decide)) (ja_cons (jd_call W3 (hr.mono (by decide)) (ja_cons (jd_call W2 (hr.mono (by decide)) (ja_cons (S.at 0) ja_nil) rfl ⟨ps, rfl, h.l8, rfl⟩) (ja_cons (jd_ixT (n := 1) (d := rT b) (S.at 1) jd_int rfl rfl) ja_nil)) rfl ⟨false, true, snds ps, b, rfl, hb, rfl⟩)
    (ja_cons (jd_call W3 (hr.mono (by decide)) (ja_cons (jd_call W1 (hr.mono (by decide)) (ja_cons (S.at 0) ja_nil) rfl ⟨ps, rfl, h.l8, rfl⟩) (ja_cons (jd_ixT (n := 0) (d := rT a) (S.at 1) jd_int rfl rfl) ja_nil)) rfl ⟨false, true, fsts ps, a, rfl, ha, rfl⟩) ja_nil)) rfl ⟨_, _, rfl, hb2, ha2, rfl⟩) fun v H' x _ p => k v H' x p
theorem dots {b : Nat} {ps : Prs} (h : RsOk ps) {l : List Rat} (hl : l.length ≤ 8) (hz : ∀ x ∈ l, Bz b x) (hb : b ≤ 239) : (DotOk l (fsts ps) ∧ Bz 4000 (dotR l (fsts ps))) ∧ (DotOk l (snds ps) ∧ Bz 4000 (dotR l (snds ps))) := by
  have a := dot_bz hz (fun x hx => (h.fb x hx).1) hl hb
  have b := dot_bz hz (fun x hx => (h.sb x hx).1) hl hb
  exact ⟨⟨a.1, a.2.mono (by omega)⟩, ⟨b.1, b.2.mono (by omega)⟩⟩
theorem even_len {n : Nat} : (evenR n).length = n := List.length_replicate
theorem fd_filled (T : Tx K mg) : Fd CX0 P w K mg base 6 "filled" ["rates", "pair"] (spD K 2 fun ds r => ∃ (ps : Prs) (s : Rat), ds = [psD ps, .tuple [rT (wOne ps s), rT (wTwo ps s)]] ∧ RsOk ps ∧ SlOk s ∧ 0 < wgap ps s ∧ r = .tuple [rT (tOne ps s), rT (tTwo ps s)]) := by
  have W1 := fd_gap_of (P := P) (w := w) (base := base) T
  have W2 := fd_lowest (P := P) (w := w) (base := base) T
  have W3 := fd_over (P := P) (w := w) (base := base) T
  have W4 := fd_times (P := P) (w := w) (base := base) T
  have W5 := fd_minus (P := P) (w := w) (base := base) T
  have W6 := fd_mixed (P := P) (w := w) (base := base) T
  obtain ⟨fd, F, hm⟩ := T.f_filled
  refine fd_mk F hm (ok_D F sc_filled rfl fun cdv A outer st H E M vs ds d D' hr hl hR S k _ => ?_) (fun _ _ _ _ _ _ us hl => match us, hl with | [_, _], _ => rfl)
  obtain ⟨ps, s, rfl, h, hs, hg, rfl⟩ := hR
  have nd := sc_filled.nd
  have p1 := h.l1
  have p8 := h.l8
  have l1 := (sh_w1 h hs.lo hs.hi).1
  have l2 := (sh_w2 h hs.lo hs.hi).1
  have dw1 := dots h (l := wOne ps s) (by omega) (w1_bz hs) (by decide)
  have dw2 := dots h (l := wTwo ps s) (by omega) (w2_bz hs) (by decide)
  have de := dots h (l := evenR ps.length) (by rw [even_len]; omega) (even_bz p1 p8) (by decide)
  have hlow := low_lt h
  refine sy_set 2 S (d := rT (evenR ps.length)) (Jd.is (jd_tupOf T.n_tuple (Jn.jd (sy_lcM (g := pD) S (jw_tup (S.at 0)) (fun _ => dR (Rat.divInt 1 ps.length)) (by omega) (fun d ρ => ρ.set 6 (some (.dat d))) (js := [6]) (own := [("_", 6)]) (by simp) ?_ ?_ (blkOk_by (by rfl)) rfl nd))) ?_) (fun σ1 H1 S1 => ?_) nd
  · rintro _ d ⟨s, H, C, cl, fp, rfl⟩ _
    exact jg_name 6 nd
  · rintro i x _ B' M' σ' H' hx ⟨s, H, C, cl, fp, rfl⟩ S'
    exact jd_call W2 (hr.mono (by decide)) (ja_cons jd_int (ja_cons (Jd.is (jd_len T.n_len (S'.at 0) (.inl rfl)) (by rw [List.length_map])) ja_nil)) rfl ⟨1, (ps.length : Int), rfl, by omega, Nat.lt_of_le_of_lt (by omega : (ps.length : Int).natAbs ≤ 8) (by exact Nat.lt_of_lt_of_le (by decide : 8 < 2 ^ 4) (Nat.pow_le_pow_right (by decide) (by decide))), rfl⟩
  · show PyData.tuple _ = PyData.tuple ((List.replicate ps.length _).map dR)
    rw [List.map_replicate, List.map_const']
  · refine sy_par 4 5 S1 (d := dR (wgap ps s)) (d2 := dR (lowR ps)) (jd_call W1 (hr.mono (by decide)) (ja_cons (S1.at 0) (ja_cons (S1.at 1) ja_nil)) rfl ⟨ps, _, _, rfl, h, dw1.1, dw2.2, by rw [gap_w h]⟩)
      (jd_call W1 (hr.mono (by decide)) (ja_cons (S1.at 0) (ja_cons (jd_tup (ja_cons (S1.at 2) (ja_cons (S1.at 2) ja_nil))) ja_nil)) rfl ⟨ps, _, _, rfl, h, de.1, de.2, rfl⟩) (fun σ2 H2 S2 => ?_) rfl nd (by decide) rfl
    have bg := wgap_bz h hs
    have bl := low_bz h
    have b3 := bz_sub bg bl
    have b4 := bz_mul bz_two b3
    refine sy_set 3 S2 (d := dR (shareR ps s)) (jd_call W3 (hr.mono (by decide)) (ja_cons (S2.at 4) (ja_cons (jd_call W4 (hr.mono (by decide)) (ja_cons (Jd.is (d' := dR 2) (jd_tup (ja_cons jd_int (ja_cons jd_int ja_nil))) rfl) (ja_cons (jd_call W5 (hr.mono (by decide)) (ja_cons (S2.at 4) (ja_cons (S2.at 5) ja_nil)) rfl ⟨_, _, rfl, bg.mono (by decide), bl.mono (by decide), rfl⟩) ja_nil)) rfl ⟨_, _, rfl, bz_two.mono (by decide), b3.mono (by decide), rfl⟩) ja_nil)) rfl
      ⟨_, _, rfl, bg.mono (by decide), b4.mono (by decide), by grind, rfl⟩) (fun σ3 H3 S3 => ?_) nd
    have bs := share_bz h hs
    have ee : El (evenR ps.length) := ⟨by rw [even_len]; omega, fun x hx => (even_bz p1 p8 x hx).mono (by decide)⟩
    exact sy_ret S3 (jd_tup (ja_cons (jd_call W6 (hr.mono (by decide)) (ja_cons (jd_ixT (n := 0) (d := rT (wOne ps s)) (S3.at 1) jd_int rfl rfl) (ja_cons (S3.at 2) (ja_cons (S3.at 3) ja_nil))) rfl ⟨_, _, _, rfl, ⟨by omega, fun x hx => (w1_bz hs x hx).mono (by decide)⟩, ee, bs.mono (by decide), rfl⟩)
      (ja_cons (jd_call W6 (hr.mono (by decide)) (ja_cons (jd_ixT (n := 1) (d := rT (wTwo ps s)) (S3.at 1) jd_int rfl rfl) (ja_cons (S3.at 2) (ja_cons (S3.at 3) ja_nil))) rfl ⟨_, _, _, rfl, ⟨by omega, fun x hx => (w2_bz hs x hx).mono (by decide)⟩, ee, bs.mono (by decide), rfl⟩) ja_nil))) fun v H' x _ p => k v H' x p
theorem lay_rL {l : List Rat} : Lay 6 (.list (l.map dR)) := lay_lst.mpr fun x hx => by
  obtain ⟨q, _, rfl⟩ := List.mem_map.mp hx
  exact lay_dR
theorem jd_idx {X : Cx} {M : List Addr} {σ : L2.St} {H : Hp} {o e : Expr} {l : List Rat} {x : Rat} {apos pos : Pos} (hu : X.A.units + 65 < cLine) (ho : Jd X M o σ H (.list (l.map dR))) (ha : Jd X M e σ H (dR x)) (hx : x ∈ l)
    (hbase : attributeBase o "index" X.env (eval o X.env) = eval o X.env := by rfl)
    (hfew : ((backTo pos (starEach [e] X.env)).all (fun x => !x.1) && (backToKw pos (keywordEach [] X.env)).all (fun x => x.1.isSome)
      && decide (([e] : List Expr).length + ([] : List Keyword).length + (if ([] : List Keyword).isEmpty then 0 else 1) < 30)) = true := by rfl)
    (hline : (apos.endLine == pos.line) = true := by rfl) (hs : starEach [e] X.env = (false, eval e X.env) :: starEach [] X.env := by rfl) (hplain : (backTo pos (starEach [] X.env)).any (·.1) = false := by rfl) :
    Jd X M (.Call (.Attribute o "index" apos) [e] [] pos) σ H (.int ((idxOf l x : Nat) : Int)) := by
  obtain ⟨h1, h2, h3⟩ := idxOf_get hx
  refine jd_index hu ho ha (lay_rL.shaped (by decide)) (lay_dR.shaped (by decide)) (z := dR x) (by rw [List.getElem?_map, h1]; rfl) (by rw [eqv_dR]; exact decide_eq_true rfl) (fun m z' hm hz => ?_) hbase hfew hline hs hplain
  rw [List.getElem?_map] at hz
  obtain ⟨y, hy, rfl⟩ := Option.map_eq_some_iff.mp hz
  rw [eqv_dR]
  exact decide_eq_false (h3 m y hm hy)
theorem fd_widest_shares (T : Tx K mg) : Fd CX0 P w K mg base 4 "widest_shares" ["rates", "slack"] (spD K 2 fun ds r => ∃ (ps : Prs) (s : Rat), ds = [psD ps, dR s] ∧ RsOk ps ∧ SlOk s ∧ r = .tuple [rT (wOne ps s), rT (wTwo ps s)]) := by
  have W1 := fd_firsts (P := P) (w := w) (base := base) T
  have W2 := fd_seconds (P := P) (w := w) (base := base) T
  have W3 := fd_least_of (P := P) (w := w) (base := base) T
  have W4 := fd_greatest_of (P := P) (w := w) (base := base) T
  have W5 := fd_minus (P := P) (w := w) (base := base) T
  have W6 := fd_mixed (P := P) (w := w) (base := base) T
  have W7 := fd_at_one (P := P) (w := w) (base := base) T
  obtain ⟨fd, F, hm⟩ := T.f_widest_shares
  refine fd_mk F hm (ok_D F sc_widest_shares rfl fun cdv A outer st H E M vs ds d D' hr hl hR S k _ => ?_) (fun _ _ _ _ _ _ us hl => match us, hl with | [_, _], _ => rfl)
  obtain ⟨ps, s, rfl, h, hs, rfl⟩ := hR
  have nd := sc_widest_shares.nd
  have p1 := h.l1
  have p8 := h.l8
  have hu : (bodyX P w K mg base N_widest_shares "widest_shares" s_widest_shares (He.ga K "widest_shares") cdv A outer st H E).A.units + 65 < cLine := by have := hr.un; omega
  refine sy_par 3 4 S (d := .int (ps.length : Int)) (d2 := .list ((gaps ps).map dR)) (Jd.is (jd_len T.n_len (S.at 0) (.inl rfl)) (by rw [List.length_map])) (Jd.is (Jn.jd (sy_lcM (g := pD) S (jw_tup (S.at 0)) (fun p => dR (p.2 - p.1)) (by omega) (fun d ρ => match d with | .tuple [x, y] => (ρ.set 7 (some (.dat x))).set 8 (some (.dat y)) | _ => ρ) (js := [7, 8]) (own := [("one", 7), ("other", 8)]) (by simp) ?_ ?_ (blkOk_by (by rfl)) rfl nd)) (by unfold gaps; rw [List.map_map]; rfl)) (fun σ1 H1 S1 => ?_) rfl nd (by decide) rfl
  · rintro _ d ⟨s, H, C, cl, fp, rfl⟩ _
    exact jg_tup rfl (jgs_cons (jg_name 7 nd) (jgs_cons (jg_name 8 nd) jgs_nil))
  · rintro i x _ B' M' σ' H' hx ⟨s, H, C, cl, fp, rfl⟩ S'
    obtain ⟨a, b, c, d, e⟩ := h.el x (List.mem_of_getElem? hx)
    exact jd_call W5 (hr.mono (by decide)) (ja_cons (S'.at 8) (ja_cons (S'.at 7) ja_nil)) rfl ⟨x.2, x.1, rfl, e.mono (by decide), d.mono (by decide), rfl⟩
  · refine sy_set 2 S1 (d := rT (nearAt ps)) (jd_call W7 (hr.mono (by decide)) (ja_cons (S1.at 3) (ja_cons (jd_idx hu (S1.at 4) (jd_call W4 (hr.mono (by decide)) (ja_cons (S1.at 4) ja_nil) rfl ⟨_, rfl, h.gn, h.b4.2.2, rfl⟩) (great_mem h.gn)) ja_nil)) rfl ⟨_, _, rfl, by omega, rfl⟩) (fun σ2 H2 S2 => ?_) nd
    refine sy_par 5 6 S2 (jd_idx (l := fsts ps) hu (jd_call W1 (hr.mono (by decide)) (ja_cons (S2.at 0) ja_nil) rfl ⟨ps, rfl, h.l8, rfl⟩) (jd_call W3 (hr.mono (by decide)) (ja_cons (jd_call W1 (hr.mono (by decide)) (ja_cons (S2.at 0) ja_nil) rfl ⟨ps, rfl, h.l8, rfl⟩) ja_nil) rfl ⟨_, rfl, h.fn, h.b4.1, rfl⟩) (least_mem h.fn))
      (jd_idx (l := snds ps) hu (jd_call W2 (hr.mono (by decide)) (ja_cons (S2.at 0) ja_nil) rfl ⟨ps, rfl, h.l8, rfl⟩) (jd_call W4 (hr.mono (by decide)) (ja_cons (jd_call W2 (hr.mono (by decide)) (ja_cons (S2.at 0) ja_nil) rfl ⟨ps, rfl, h.l8, rfl⟩) ja_nil) rfl ⟨_, rfl, h.sn, h.b4.2.1, rfl⟩) (great_mem h.sn)) (fun σ3 H3 S3 => ?_) rfl nd (by decide) rfl
    have ea : ∀ i, El (atR ps.length i) := fun i => ⟨by rw [at_len]; omega, fun x hx => (at_bz x hx).mono (by decide)⟩
    exact sy_ret S3 (jd_tup (ja_cons (jd_call W6 (hr.mono (by decide)) (ja_cons (S3.at 2) (ja_cons (jd_call W7 (hr.mono (by decide)) (ja_cons (S3.at 3) (ja_cons (S3.at 5) ja_nil)) rfl ⟨_, _, rfl, by omega, rfl⟩) (ja_cons (S3.at 1) ja_nil))) rfl ⟨nearAt ps, lowAt ps, s, rfl, ea _, ea _, hs.bz.mono (by decide), rfl⟩)
      (ja_cons (jd_call W6 (hr.mono (by decide)) (ja_cons (S3.at 2) (ja_cons (jd_call W7 (hr.mono (by decide)) (ja_cons (S3.at 3) (ja_cons (S3.at 6) ja_nil)) rfl ⟨_, _, rfl, by omega, rfl⟩) (ja_cons (S3.at 1) ja_nil))) rfl ⟨nearAt ps, highAt ps, s, rfl, ea _, ea _, hs.bz.mono (by decide), rfl⟩) ja_nil))) fun v H' x _ p => k v H' x p
end K60

set_option maxHeartbeats 4000000
namespace K60
open PySem PySem.Spec PyProof.Rows L2 J Evl
variable {P : Program} {w : World} {K : PySem.W.Frag} {mg : Str → Option Value} {base : Heap}
theorem sh_dR (r : Rat) : Sh (dR r) := fun l h => by cases h; show 2 ≤ 90000; omega
theorem sm_dR {r : Rat} (h : Bz 4000 r) : Sm (dR r) := ⟨sh_dR r, fun t e => by rw [dR_inj e.symm]; exact h⟩
theorem RsOk.ask {ps : Prs} (h : RsOk ps) : AskR (psD ps) := fun l e x hx l2 e2 y hy => by
  cases e
  obtain ⟨p, hp, rfl⟩ := List.mem_map.mp hx
  cases e2
  obtain ⟨a, b, c, d, e⟩ := h.el p hp
  simp only [List.mem_cons, List.not_mem_nil, or_false] at hy
  rcases hy with rfl | rfl
  · exact sm_dR (d.mono (by decide))
  · exact sm_dR (e.mono (by decide))
theorem RsOk.is {ps : Prs} (h : RsOk ps) : isRs (psD ps) = true := by
  have p1 := h.l1
  have p8 := h.l8
  show ((decide (1 ≤ (((ps.map pD).length : Nat) : Int)) && decide ((((ps.map pD).length : Nat) : Int) ≤ 8)) && (ps.map pD).all isPr) = true
  rw [List.length_map, decide_eq_true (by omega), decide_eq_true (by omega), Bool.true_and, Bool.true_and, List.all_eq_true]
  intro x hx
  obtain ⟨p, hp, rfl⟩ := List.mem_map.mp hx
  obtain ⟨a, b, c, d, e⟩ := h.el p hp
  show (isC (dR p.1) && isC (dR p.2) && decide (toR (dR p.2) < toR (dR p.1))) = true
  rw [isC_dR, isC_dR, toR_dR, toR_dR, decide_eq_true (by grind), decide_eq_true (by grind), decide_eq_true (by grind), decide_eq_true (by grind), decide_eq_true (by grind)]
  rfl
theorem SlOk.is {s : Rat} (h : SlOk s) : isC (dR s) = true := by rw [isC_dR, decide_eq_true h.lo, decide_eq_true h.hi]; rfl
/-- rates or slack are wrong -/
def FlW (K : PySem.W.Frag) : List D → Value → Prop := fun ds c => (∃ a b, ds = [a, b] ∧ AskR a ∧ isRs a = false ∧ c = .ref (He.ga K "BadRates")) ∨ ∃ (ps : Prs) (b : D), ds = [psD ps, b] ∧ RsOk ps ∧ Sh b ∧ isC b = false ∧ c = .ref (He.ga K "BadSlack")
def RW2 (f : Prs → Rat → D) : List D → D → Prop := fun ds d => ∃ (ps : Prs) (s : Rat), ds = [psD ps, dR s] ∧ RsOk ps ∧ SlOk s ∧ d = f ps s
theorem ok_widest_gap (T : Tx K mg) : ∃ fd, FnOk P w K mg base (CX P w) 7 (He.ga K "widest_gap") fd ["rates", "slack"] (spX K 2 (RW2 fun ps s => dR (wgap ps s)) (FlW K)) ∧ FnP K "widest_gap" "widest_gap" s_widest_gap (He.ga K "widest_gap") fd ∧ mg "widest_gap" = some (.ref (He.ga K "widest_gap")) := by
  have W1 := fd_need_rates (P := P) (w := w) (base := base) T
  have W2 := fd_need_slack (P := P) (w := w) (base := base) T
  have W3 := fd_plus (P := P) (w := w) (base := base) T
  have W4 := fd_times (P := P) (w := w) (base := base) T
  have W5 := fd_minus (P := P) (w := w) (base := base) T
  have W6 := fd_nearest_gap (P := P) (w := w) (base := base) T
  have W7 := fd_room_of (P := P) (w := w) (base := base) T
  obtain ⟨fd, F, hm⟩ := T.f_widest_gap
  refine ⟨fd, ok_X F sc_widest_gap rfl fun cdv A outer st H E M vs ds D' hr hl S hR => ?_, F, hm⟩
  rcases hR with ⟨d, ⟨ps, s, rfl, h, hs, rfl⟩, kr, _⟩ | ⟨c, ⟨a, b, rfl, ha, hn, rfl⟩ | ⟨ps, b, rfl, h, hb, hn, rfl⟩, kE⟩
  · refine sy_expr S (jd_callX W1 (hr.mono (by decide)) (ja_cons (S.at 0) ja_nil) rfl ⟨_, rfl, h.ask, h.is, rfl⟩) fun H1 S1 => ?_
    refine sy_expr S1 (jd_callX W2 (hr.mono (by decide)) (ja_cons (S1.at 1) ja_nil) rfl ⟨_, rfl, sh_dR s, hs.is, rfl⟩) fun H2 S2 => ?_
    have b1 := bz_sub bz_one hs.bz
    have b2 := near_bz h
    have b3 := room_bz h
    exact sy_ret S2 (jd_call W3 (hr.mono (by decide)) (ja_cons (jd_call W4 (hr.mono (by decide)) (ja_cons (jd_call W5 (hr.mono (by decide)) (ja_cons (jd_glob T.c_ONE.1 (v := .ref (He.ga K "ONE")) (d := dR 1) rfl (.tup (T.c_ONE.2 _) (.cons (.int 1) (.cons (.int 1) .nil)))) (ja_cons (S2.at 1) ja_nil)) rfl ⟨1, s, rfl, bz_one.mono (by decide), hs.bz.mono (by decide), rfl⟩)
      (ja_cons (jd_call W6 (hr.mono (by decide)) (ja_cons (S2.at 0) ja_nil) rfl ⟨ps, rfl, h, rfl⟩) ja_nil)) rfl ⟨_, _, rfl, b1.mono (by decide), b2.mono (by decide), rfl⟩)
      (ja_cons (jd_call W4 (hr.mono (by decide)) (ja_cons (S2.at 1) (ja_cons (jd_call W7 (hr.mono (by decide)) (ja_cons (S2.at 0) ja_nil) rfl ⟨ps, rfl, h, rfl⟩) ja_nil)) rfl ⟨_, _, rfl, hs.bz.mono (by decide), b3.mono (by decide), rfl⟩) ja_nil)) rfl ⟨_, _, rfl, (bz_mul b1 b2).mono (by decide), (bz_mul hs.bz b3).mono (by decide), rfl⟩) fun v H' x _ p => kr v H' x p
  · exact tB_exprX (jx_call W1 (hr.mono (by decide)) bodyE_tk S.all (ja_cons (S.at 0) ja_nil) rfl ⟨a, rfl, ha, hn, rfl⟩ fun H' x => kE H' (S.bs.trans x))
  · refine sy_expr S (jd_callX W1 (hr.mono (by decide)) (ja_cons (S.at 0) ja_nil) rfl ⟨_, rfl, h.ask, h.is, rfl⟩) fun H1 S1 => ?_
    exact tB_exprX (jx_call W2 (hr.mono (by decide)) bodyE_tk S1.all (ja_cons (S1.at 1) ja_nil) rfl ⟨b, rfl, hb, hn, rfl⟩ fun H' x => kE H' (S1.bs.trans x))
theorem ok_gap_shares (T : Tx K mg) : ∃ fd, FnOk P w K mg base (CX P w) 7 (He.ga K "gap_shares") fd ["rates", "slack"] (spX K 2 (RW2 fun ps s => .tuple [rT (wOne ps s), rT (wTwo ps s)]) (FlW K)) ∧ FnP K "gap_shares" "gap_shares" s_gap_shares (He.ga K "gap_shares") fd ∧ mg "gap_shares" = some (.ref (He.ga K "gap_shares")) := by
  have W1 := fd_need_rates (P := P) (w := w) (base := base) T
  have W2 := fd_need_slack (P := P) (w := w) (base := base) T
  have W3 := fd_widest_shares (P := P) (w := w) (base := base) T
  obtain ⟨fd, F, hm⟩ := T.f_gap_shares
  refine ⟨fd, ok_X F sc_gap_shares rfl fun cdv A outer st H E M vs ds D' hr hl S hR => ?_, F, hm⟩
  rcases hR with ⟨d, ⟨ps, s, rfl, h, hs, rfl⟩, kr, _⟩ | ⟨c, ⟨a, b, rfl, ha, hn, rfl⟩ | ⟨ps, b, rfl, h, hb, hn, rfl⟩, kE⟩
  · refine sy_expr S (jd_callX W1 (hr.mono (by decide)) (ja_cons (S.at 0) ja_nil) rfl ⟨_, rfl, h.ask, h.is, rfl⟩) fun H1 S1 => ?_
    refine sy_expr S1 (jd_callX W2 (hr.mono (by decide)) (ja_cons (S1.at 1) ja_nil) rfl ⟨_, rfl, sh_dR s, hs.is, rfl⟩) fun H2 S2 => ?_
    exact sy_ret S2 (jd_call W3 (hr.mono (by decide)) (ja_cons (S2.at 0) (ja_cons (S2.at 1) ja_nil)) rfl ⟨ps, s, rfl, h, hs, rfl⟩) fun v H' x _ p => kr v H' x p
  · exact tB_exprX (jx_call W1 (hr.mono (by decide)) bodyE_tk S.all (ja_cons (S.at 0) ja_nil) rfl ⟨a, rfl, ha, hn, rfl⟩ fun H' x => kE H' (S.bs.trans x))
  · refine sy_expr S (jd_callX W1 (hr.mono (by decide)) (ja_cons (S.at 0) ja_nil) rfl ⟨_, rfl, h.ask, h.is, rfl⟩) fun H1 S1 => ?_
    exact tB_exprX (jx_call W2 (hr.mono (by decide)) bodyE_tk S1.all (ja_cons (S1.at 1) ja_nil) rfl ⟨b, rfl, hb, hn, rfl⟩ fun H' x => kE H' (S1.bs.trans x))
theorem fd_widest_gap (T : Tx K mg) : Fd (CX P w) P w K mg base 7 "widest_gap" ["rates", "slack"] (spX K 2 (RW2 fun ps s => dR (wgap ps s)) (FlW K)) := by
  obtain ⟨fd, ok, F, hm⟩ := ok_widest_gap (P := P) (w := w) (base := base) T
  exact fd_mk F hm ok (fun _ _ _ _ _ _ us hl => match us, hl with | [_, _], _ => rfl)
theorem fd_gap_shares (T : Tx K mg) : Fd (CX P w) P w K mg base 7 "gap_shares" ["rates", "slack"] (spX K 2 (RW2 fun ps s => .tuple [rT (wOne ps s), rT (wTwo ps s)]) (FlW K)) := by
  obtain ⟨fd, ok, F, hm⟩ := ok_gap_shares (P := P) (w := w) (base := base) T
  exact fd_mk F hm ok (fun _ _ _ _ _ _ us hl => match us, hl with | [_, _], _ => rfl)
def toldD (ps : Prs) (s : Rat) : D := if wgap ps s ≤ 0 then .none else .tuple [rT (tOne ps s), rT (tTwo ps s)]
theorem ok_nearly_reversing (T : Tx K mg) : ∃ fd, FnOk P w K mg base (CX P w) 8 (He.ga K "nearly_reversing") fd ["rates", "slack"] (spX K 2 (RW2 toldD) (FlW K)) ∧ FnP K "nearly_reversing" "nearly_reversing" s_nearly_reversing (He.ga K "nearly_reversing") fd ∧ mg "nearly_reversing" = some (.ref (He.ga K "nearly_reversing")) := by
  have W1 := fd_widest_gap (P := P) (w := w) (base := base) T
  have W2 := fd_filled (P := P) (w := w) (base := base) T
  have W3 := fd_widest_shares (P := P) (w := w) (base := base) T
  obtain ⟨fd, F, hm⟩ := T.f_nearly_reversing
  refine ⟨fd, ok_X F sc_nearly_reversing rfl fun cdv A outer st H E M vs ds D' hr hl S hR => ?_, F, hm⟩
  rcases hR with ⟨d, ⟨ps, s, rfl, h, hs, rfl⟩, kr, _⟩ | ⟨c, hf, kE⟩
  · refine sy_when S (Jt.is (jt_le (jd_ixT (n := 0) (jd_callX W1 (hr.mono (by decide)) (ja_cons (S.at 0) (ja_cons (S.at 1) ja_nil)) rfl ⟨ps, s, rfl, h, hs, rfl⟩) jd_int rfl rfl) jd_int) dec_nonpos) (fun q H1 S1 => ?_) fun q H1 S1 => ?_
    · have e : toldD ps s = .none := if_pos (of_decide_eq_true q)
      rw [e] at kr
      exact sy_ret S1 jd_non fun v H' x _ p => kr v H' x p
    · have hg := of_decide_eq_false q
      have e : toldD ps s = .tuple [rT (tOne ps s), rT (tTwo ps s)] := if_neg hg
      rw [e] at kr
      exact sy_ret S1 (jd_call W2 (hr.mono (by decide)) (ja_cons (S1.at 0) (ja_cons (jd_call W3 (hr.mono (by decide)) (ja_cons (S1.at 0) (ja_cons (S1.at 1) ja_nil)) rfl ⟨ps, s, rfl, h, hs, rfl⟩) ja_nil)) rfl ⟨ps, s, rfl, h, hs, by grind, rfl⟩) fun v H' x _ p => kr v H' x p
  · obtain ⟨a, b, rfl⟩ : ∃ a b, ds = [a, b] := by
      match ds, hl with
      | [a, b], _ => exact ⟨a, b, rfl⟩
    exact tB_if (leT (pt_cmpR op_le pe_W pe_W (nm _ rfl rfl)) (leW (pe_ix ix_tup pe_W pe_W (fun _ _ => rfl)) (jx_call W1 (hr.mono (by decide)) bodyE_tk S.all (ja_cons (S.at 0) (ja_cons (S.at 1) ja_nil)) rfl hf fun H' x => kE H' (S.bs.trans x))))
theorem fd_nearly_reversing (T : Tx K mg) : Fd (CX P w) P w K mg base 8 "nearly_reversing" ["rates", "slack"] (spX K 2 (RW2 toldD) (FlW K)) := by
  obtain ⟨fd, ok, F, hm⟩ := ok_nearly_reversing (P := P) (w := w) (base := base) T
  exact fd_mk F hm ok (fun _ _ _ _ _ _ us hl => match us, hl with | [_, _], _ => rfl)
def leastU (ps : Prs) : Rat := -nearR ps / (roomR ps - nearR ps)
def leastD (ps : Prs) : D := if roomR ps ≤ 0 then .none else dR (leastU ps)
theorem ok_least_unlike (T : Tx K mg) : ∃ fd, FnOk P w K mg base (CX P w) 7 (He.ga K "least_unlike") fd ["rates"] (spX K 1 (fun ds d => ∃ ps, ds = [psD ps] ∧ RsOk ps ∧ d = leastD ps) fun ds c => ∃ a, ds = [a] ∧ AskR a ∧ isRs a = false ∧ c = .ref (He.ga K "BadRates")) ∧ FnP K "least_unlike" "least_unlike" s_least_unlike (He.ga K "least_unlike") fd ∧ mg "least_unlike" = some (.ref (He.ga K "least_unlike")) := by
  have W1 := fd_need_rates (P := P) (w := w) (base := base) T
  have W2 := fd_lowest (P := P) (w := w) (base := base) T
  have W3 := fd_over (P := P) (w := w) (base := base) T
  have W5 := fd_minus (P := P) (w := w) (base := base) T
  have W6 := fd_nearest_gap (P := P) (w := w) (base := base) T
  have W7 := fd_room_of (P := P) (w := w) (base := base) T
  obtain ⟨fd, F, hm⟩ := T.f_least_unlike
  refine ⟨fd, ok_X F sc_least_unlike rfl fun cdv A outer st H E M vs ds D' hr hl S hR => ?_, F, hm⟩
  have nd := sc_least_unlike.nd
  rcases hR with ⟨d, ⟨ps, rfl, h, rfl⟩, kr, _⟩ | ⟨c, ⟨a, rfl, ha, hn, rfl⟩, kE⟩
  · refine sy_expr S (jd_callX W1 (hr.mono (by decide)) (ja_cons (S.at 0) ja_nil) rfl ⟨_, rfl, h.ask, h.is, rfl⟩) fun H1 S1 => ?_
    refine sy_par 1 2 S1 (d := dR (nearR ps)) (d2 := dR (roomR ps)) (jd_call W6 (hr.mono (by decide)) (ja_cons (S1.at 0) ja_nil) rfl ⟨ps, rfl, h, rfl⟩) (jd_call W7 (hr.mono (by decide)) (ja_cons (S1.at 0) ja_nil) rfl ⟨ps, rfl, h, rfl⟩) (fun σ2 H2 S2 => ?_) rfl nd (by decide) rfl
    refine sy_when S2 (Jt.is (jt_le (jd_ixT (n := 0) (S2.at 2) jd_int rfl rfl) jd_int) dec_nonpos) (fun q H3 S3 => ?_) fun q H3 S3 => ?_
    · have e : leastD ps = .none := if_pos (of_decide_eq_true q)
      rw [e] at kr
      exact sy_ret S3 jd_non fun v H' x _ p => kr v H' x p
    · have e : leastD ps = dR (leastU ps) := if_neg (of_decide_eq_false q)
      rw [e] at kr
      have b2 := near_bz h
      have b3 := room_bz h
      have hnl := near_lt h
      have hrm : 0 < roomR ps := by have := of_decide_eq_false q; grind
      have en : Rat.divInt (-(nearR ps).num) ((nearR ps).den : Int) = -nearR ps := by
        have := Rat.num_divInt_den (-nearR ps)
        rwa [Rat.neg_num, Rat.neg_den] at this
      exact sy_ret S3 (jd_call W3 (hr.mono (by decide)) (ja_cons (jd_call W2 (hr.mono (by decide)) (ja_cons (jd_neg (jd_ixT (n := 0) (S3.at 1) jd_int rfl rfl)) (ja_cons (jd_ixT (n := 1) (S3.at 1) jd_int rfl rfl) ja_nil)) rfl ⟨_, _, rfl, den_pos _, Nat.lt_of_lt_of_le b2.2 (Nat.pow_le_pow_right (by decide) (by decide)), rfl⟩)
        (ja_cons (jd_call W5 (hr.mono (by decide)) (ja_cons (S3.at 2) (ja_cons (S3.at 1) ja_nil)) rfl ⟨_, _, rfl, b3.mono (by decide), b2.mono (by decide), rfl⟩) ja_nil)) rfl ⟨-nearR ps, _, by rw [en], (bz_neg b2).mono (by decide), (bz_sub b3 b2).mono (by decide), by grind, rfl⟩) fun v H' x _ p => kr v H' x p
  · exact tB_exprX (jx_call W1 (hr.mono (by decide)) bodyE_tk S.all (ja_cons (S.at 0) ja_nil) rfl ⟨a, rfl, ha, hn, rfl⟩ fun H' x => kE H' (S.bs.trans x))
theorem fd_least_unlike (T : Tx K mg) : Fd (CX P w) P w K mg base 7 "least_unlike" ["rates"] (spX K 1 (fun ds d => ∃ ps, ds = [psD ps] ∧ RsOk ps ∧ d = leastD ps) fun ds c => ∃ a, ds = [a] ∧ AskR a ∧ isRs a = false ∧ c = .ref (He.ga K "BadRates")) := by
  obtain ⟨fd, ok, F, hm⟩ := ok_least_unlike (P := P) (w := w) (base := base) T
  exact fd_mk F hm ok (fun _ _ _ _ _ _ us hl => match us, hl with | [_], _ => rfl)
end K60

set_option maxHeartbeats 4000000
namespace K60
open PySem PySem.Spec PyProof.Rows L2 J Evl
theorem least_facts {ps : Prs} (h : RsOk ps) (hr : ¬ roomR ps ≤ 0) : 0 < leastU ps ∧ leastU ps < 1 ∧ wgap ps (leastU ps) = 0 ∧ Bz 55 (leastU ps) := by
  have hn := near_lt h
  have hr0 : 0 < roomR ps := by grind
  have hne : (roomR ps - nearR ps) ≠ 0 := by grind
  have e : leastU ps * (roomR ps - nearR ps) = -nearR ps := div_mul' hne
  have bz : Bz 55 (leastU ps) := (bz_div (bz_neg (near_bz h)) (bz_sub (room_bz h) (near_bz h)) (by decide)).mono (by decide)
  have w0 : wgap ps (leastU ps) = 0 := by rw [wgap_eq, e]; grind
  generalize leastU ps = t at *
  generalize roomR ps = r at *
  generalize nearR ps = m at *
  refine ⟨?_, ?_, w0, bz⟩
  · rcases (Rat.le_total : (0 : Rat) ≤ t ∨ t ≤ 0) with q | q
    · rcases Rat.le_iff_lt_or_eq.mp q with q | q
      · exact q
      · rw [← q] at e; grind
    · have mm := mul_nn (a := -t) (b := r - m) (by grind) (by grind)
      grind
  · rcases (Rat.le_total : (1 : Rat) ≤ t ∨ t ≤ 1) with q | q
    · have mm := mul_nn (a := t - 1) (b := r - m) (by grind) (by grind)
      grind
    · rcases Rat.le_iff_lt_or_eq.mp q with q | q
      · exact q
      · rw [q] at e; grind
theorem ninth_dR : dR (1 / 9) = .tuple [.int 1, .int 9] := by
  have e1 : (1 / 9 : Rat).num = 1 := by decide +kernel
  have e2 : (1 / 9 : Rat).den = 9 := by decide +kernel
  unfold dR
  rw [e1, e2]; rfl
theorem eight_dR : dR (8 / 9) = .tuple [.int 8, .int 9] := by
  have e1 : (8 / 9 : Rat).num = 8 := by decide +kernel
  have e2 : (8 / 9 : Rat).den = 9 := by decide +kernel
  unfold dR
  rw [e1, e2]; rfl
theorem bz_ninth : Bz 4 (1 / 9) := by unfold Bz; decide +kernel
theorem bz_eight : Bz 4 (8 / 9) := by unfold Bz; decide +kernel
def upS (t : Rat) : Rat := t + 1 / 9 * (1 - t)
def dnS (t : Rat) : Rat := 8 / 9 * t
theorem up_ok {t : Rat} (h0 : 0 < t) (h1 : t < 1) (hb : Bz 55 t) : SlOk (upS t) := by
  refine ⟨by unfold upS; grind, by unfold upS; grind, ?_⟩
  have d : Dv (t.den * 9) (upS t) := by
    have d9 : Dv 9 (1 / 9 : Rat) := ⟨by decide, 1, by decide +kernel⟩
    have a := dv_up (dv_den t) (E := 9) (by decide)
    have b := dv_mul d9 (dv_sub (dv_one (dv_den t).1) (dv_den t))
    rw [Nat.mul_comm] at b
    exact dv_add a b
  have := hb.2
  have e : 2 ^ 60 = 2 ^ 55 * 32 := by decide
  exact fr_bz (c := 1) d (by unfold upS; grind) (by unfold upS; grind) (by decide) (by omega) (by omega)
theorem dn_ok {t : Rat} (h0 : 0 < t) (h1 : t < 1) (hb : Bz 55 t) : SlOk (dnS t) := ⟨by unfold dnS; grind, by unfold dnS; grind, (bz_mul bz_eight hb).mono (by decide)⟩
theorem up_gap {ps : Prs} (h : RsOk ps) (hr : ¬ roomR ps ≤ 0) : 0 < wgap ps (upS (leastU ps)) := by
  obtain ⟨h0, h1, h2, _⟩ := least_facts h hr
  have hn := near_lt h
  have e : wgap ps (upS (leastU ps)) = 1 / 9 * ((1 - leastU ps) * (roomR ps - nearR ps)) := by
    rw [wgap_eq] at h2 ⊢
    unfold upS
    grind
  rw [e]
  have := Rat.mul_pos (a := 1 - leastU ps) (b := roomR ps - nearR ps) (by grind) (by grind)
  exact Rat.mul_pos (by decide +kernel) this
theorem dn_gap {ps : Prs} (h : RsOk ps) (hr : ¬ roomR ps ≤ 0) : wgap ps (dnS (leastU ps)) ≤ 0 := by
  obtain ⟨h0, h1, h2, _⟩ := least_facts h hr
  have hn := near_lt h
  have e : wgap ps (dnS (leastU ps)) = 1 / 9 * nearR ps := by
    rw [wgap_eq] at h2 ⊢
    unfold dnS
    grind
  rw [e]; grind
end K60

set_option maxHeartbeats 4000000
namespace K60
open PySem PySem.Spec PyProof.Rows L2 J Evl
variable {P : Program} {w : World} {K : PySem.W.Frag} {mg : Str → Option Value} {base : Heap}
theorem fm_some (l : List D) : (l.map some).filterMap id = l := by
  induction l with
  | nil => rfl
  | cons a t ih => simp
theorem fm_mapS {α : Type} (f : α → D) (l : List α) : (l.map fun a => some (f a)).filterMap id = l.map f := by
  induction l with
  | nil => rfl
  | cons a t ih => simp
theorem fd_law_is_truth (T : Tx K mg) : Fd CX0 P w K mg base 1 "_law_is_truth" ["found", "due"] (spD K 2 fun ds r => ∃ a b : Bool, ds = [.bool a, .bool b] ∧ r = .bool (a == b)) := by
  obtain ⟨fd, F, hm⟩ := T.f_law_is_truth
  refine fd_mk F hm (ok_D F sc_law_is_truth rfl fun cdv A outer s H E M vs ds d D' hr hl hR S k _ => ?_) (fun _ _ _ _ _ _ us hl => match us, hl with | [_, _], _ => rfl)
  obtain ⟨a, b, rfl, rfl⟩ := hR
  refine sy_ret S (jd_if (k := b) (jt_val (S.at 1)) (fun h => ?_) fun h => ?_) fun v H' x _ p => k v H' x p
  · refine (jd_isB (S.at 0) jd_bl).is ?_
    subst h; cases a <;> rfl
  · refine (jd_isB (S.at 0) jd_bl).is ?_
    subst h; cases a <;> rfl
/-! ### the draws -/
def drK (l : Addr) (cs : List Int) (r t : Int) : List (Key × Sv) := [(.inr "great", .val (.ref l)), (.inr "cells", .dat (.list (cs.map PyData.int))), (.inr "rest", .dat (.int r)), (.inr "turn", .dat (.int t))]
abbrev iS (gs : List Int) : List Sv := (gs.map PyData.int).map Sv.dat
def Dr (a l : Addr) (gs cs : List Int) (r t : Int) : Mu := [(a, .dct (drK l cs r t)), (l, .lst (iS gs))]
theorem lk_great {l cs r t} : lkS (drK l cs r t) (.inr "great") = some (.val (.ref l)) := rfl
theorem lk_cells {l cs r t} : lkS (drK l cs r t) (.inr "cells") = some (.dat (.list (cs.map PyData.int))) := rfl
theorem lk_rest {l cs r t} : lkS (drK l cs r t) (.inr "rest") = some (.dat (.int r)) := rfl
theorem lk_turn {l cs r t} : lkS (drK l cs r t) (.inr "turn") = some (.dat (.int t)) := rfl
theorem put_rest {l cs r t r'} : putS (drK l cs r t) (.inr "rest") (.dat (.int r')) = drK l cs r' t := rfl
theorem put_turn {l cs r t t'} : putS (drK l cs r t) (.inr "turn") (.dat (.int t')) = drK l cs r t' := rfl
/-- a state of draws that can be drawn from -/
def DrOk (gs : List Int) (t n : Int) : Prop := gs.length ≤ 1000 ∧ 0 ≤ t ∧ t ≤ n
def greatF (n : Int) : Option D := if (10 : Int) ^ (18 : Int).toNat ≤ ((n.natAbs : Nat) : Int) then some (.int (((n.natAbs : Nat) : Int) - (10 : Int) ^ (18 : Int).toNat)) else none
theorem great_ints : ∀ ns : List Int, ∃ gs : List Int, (ns.map greatF).filterMap id = gs.map PyData.int ∧ gs.length ≤ ns.length
  | [] => ⟨[], rfl, Nat.le_refl _⟩
  | n :: r => by
    obtain ⟨gs, h1, h2⟩ := great_ints r
    by_cases q : (10 : Int) ^ (18 : Int).toNat ≤ ((n.natAbs : Nat) : Int)
    · have e : greatF n = some (.int (((n.natAbs : Nat) : Int) - (10 : Int) ^ (18 : Int).toNat)) := if_pos q
      exact ⟨(((n.natAbs : Nat) : Int) - (10 : Int) ^ (18 : Int).toNat) :: gs, by rw [List.map_cons, e, List.map_cons, ← h1]; rfl, by simp; omega⟩
    · have e : greatF n = none := if_neg q
      exact ⟨gs, by rw [List.map_cons, e, ← h1]; rfl, by simp; omega⟩
theorem fd_law_begun (T : Tx K mg) : Fd CX0 P w K mg base 1 "_law_begun" ["script"] (spM K 1 (fun ss μ => ∃ ns : List Int, ss = [.dat (.list (ns.map PyData.int))] ∧ ns.length ≤ 1000 ∧ μ = []) (fun _ _ s μ' => ∃ a l gs cs, s = .val (.ref a) ∧ gs.length ≤ 1000 ∧ μ' = Dr a l gs cs 0 0) noF) := by
  obtain ⟨fd, F, hm⟩ := T.f_law_begun
  refine fd_mk F hm (ok_M F sc_law_begun rfl fun cdv A outer s H E B M0 vs ss μ D' hr hl hP S k kn => ?_) (fun _ _ _ _ _ _ us hl => match us, hl with | [_], _ => rfl)
  obtain ⟨ns, rfl, hz, rfl⟩ := hP
  have pw : ∀ {X : Cx} {M σ H p1 p2 p3 k1 k2}, Jd X M (.BinOp (.Constant (.int 10) k1 p1) .Pow (.Constant (.int 18) k2 p2) p3) σ H (.int ((10 : Int) ^ (18 : Int).toNat)) := jd_pow jd_int jd_int ⟨by decide, by decide, by decide⟩
  refine tB_setLc 1 (lcN_own S (jw_lst (S.at 0)) (ns.map greatF) (by simp) (by simp; omega) (fun d ρ => ρ.set 2 (some (.dat d))) (js := [2]) (own := [("cell", 2)]) (by simp) ?_ ?_ ?_ fun l H1 S1 => ?_) (blkOk_by (by rfl)) rfl sc_law_begun.nd
  · rintro _ d ⟨s, H, C, cl, fp, rfl⟩ _
    exact jg_name 2 sc_law_begun.nd
  · rintro i d o _ B' M' σ' H' h1 h2 ⟨s, H, C, cl, fp, rfl⟩ S'
    rw [List.getElem?_map] at h1 h2
    obtain ⟨n, hn, rfl⟩ := Option.map_eq_some_iff.mp h1
    rw [hn] at h2
    cases h2
    refine jts_one (Jt.is (jt_ge (jd_abs T.n_abs (S'.at 2)) pw) ?_)
    show _ = (greatF n).isSome
    unfold greatF
    split
    · rename_i q; rw [decide_eq_true q]; rfl
    · rename_i q; rw [decide_eq_false q]; rfl
  · rintro i d x _ B' M' σ' H' h1 h2 ⟨s, H, C, cl, fp, rfl⟩ S'
    rw [List.getElem?_map] at h1 h2
    obtain ⟨n, hn, rfl⟩ := Option.map_eq_some_iff.mp h1
    rw [hn] at h2
    have h2 : greatF n = some x := Option.some.inj h2
    unfold greatF at h2
    split at h2
    · cases h2
      exact jd_sub (jd_abs T.n_abs (S'.at 2)) pw
    · cases h2
  · have S2 := S1.set 1 (s := .val (.ref l)) (v := .ref l) rfl
    obtain ⟨gs, hgs, hgl⟩ := great_ints ns
    rw [hgs] at S2
    refine sy_retE (jm_dict (hkl := (by decide : 4 ≤ 15)) (kvs := drK l (ns.map fun n => ((n.natAbs : Nat) : Int)) 0 0) S2 (pps_cons pe_str pe_W (pps_cons pe_str pe_W (pps_cons pe_str pe_W (pps_cons pe_str pe_W pps_nil)))) (fun p H3 S3 => ?_) fun a H3 S3 => k (.ref a) (.val (.ref a)) _ H3 ⟨a, l, gs, _, rfl, by omega, rfl⟩ (S3.one rfl))
    refine jps_cons (S3.atV 1).js (jps_cons (Jd.js ?_) (jps_cons jd_int.js (jps_cons jd_int.js jps_nil)))
    refine (sy_lc S3 (jw_lst (S3.at 0)) (ns.map fun n => some (.int ((n.natAbs : Nat) : Int))) (by simp) (by simp; omega) (fun d ρ => ρ.set 2 (some (.dat d))) (js := [2]) (own := [("cell", 2)]) (by simp) ?_ ?_ ?_ (blkOk_by (by rfl)) rfl sc_law_begun.nd).is ?_
    · rintro _ d ⟨s, H, C, cl, fp, rfl⟩ _
      exact jg_name 2 sc_law_begun.nd
    · rintro i d o _ B' M' σ' H' h1 h2 ⟨s, H, C, cl, fp, rfl⟩ S'
      rw [List.getElem?_map] at h1 h2
      obtain ⟨n, hn, rfl⟩ := Option.map_eq_some_iff.mp h1
      rw [hn] at h2
      cases h2
      exact jts_nil
    · rintro i d x _ B' M' σ' H' h1 h2 ⟨s, H, C, cl, fp, rfl⟩ S'
      rw [List.getElem?_map] at h1 h2
      obtain ⟨n, hn, rfl⟩ := Option.map_eq_some_iff.mp h1
      rw [hn] at h2
      cases h2
      exact jd_abs T.n_abs (S'.at 2)
    · rw [fm_mapS, List.map_map]; rfl
theorem cmulL {i j : Int} (h : -(2 ^ 64) < i ∧ i < 2 ^ 64) : CMul i j := .inl h
theorem cmulR {i j : Int} (h : -(2 ^ 64) < j ∧ j < 2 ^ 64) : CMul i j := .inr h
theorem fd_law_blended (T : Tx K mg) : Fd CX0 P w K mg base 1 "_law_blended" ["state"] (spM K 1 (fun ss μ => ∃ a l gs cs r t, ss = [.val (.ref a)] ∧ 0 ≤ t ∧ t < 2 ^ 40 ∧ μ = Dr a l gs cs r t)
    (fun ss μ s μ' => ∃ a l gs cs r t n, ss = [.val (.ref a)] ∧ μ = Dr a l gs cs r t ∧ s = .dat (.int n) ∧ μ' = Dr a l gs cs r (t + 1)) noF) := by
  obtain ⟨fd, F, hm⟩ := T.f_law_blended
  refine fd_mk F hm (ok_M F sc_law_blended rfl fun cdv A outer s H E B M0 vs ss μ D' hr hl hP S k kn => ?_) (fun _ _ _ _ _ _ us hl => match us, hl with | [_], _ => rfl)
  obtain ⟨a, l, gs, cs, r, t, rfl, t0, t40, rfl⟩ := hP
  have hu : (bodyX P w K mg base N_law_blended "_law_blended" s_law_blended (He.ga K "_law_blended") cdv A outer s H E).A.units + 1 < cLine := by have := hr.units; omega
  refine sy_par 2 3 S (jd_add (js_dget hu S (S.atV 0) (i := 0) rfl lk_turn) jd_int) jd_int (fun σ1 H1 S1 => ?_) rfl sc_law_blended.nd (by decide) rfl
  refine sy_dput hu S1 (S1.at 2).js (S1.atV 0) (i := 0) rfl (by decide : 4 < 1000) fun H2 S2 => ?_
  have S2 : Sy K B M0 [some (.val (.ref a)), none, some (.dat (.int (t + 1))), some (.dat (.int 0)), none, none] (Dr a l gs cs r (t + 1)) σ1 H2 := S2
  refine sy_for S2 (jw_lst (jd_lst (ja_cons jd_int (ja_cons jd_int (ja_cons jd_int ja_nil))))) (fun d ρ => ρ.set 1 (some (.dat d))) (js := [1]) (fun d ρ' _ => jg_name 1 sc_law_blended.nd)
    (fun i ρ' μ' => μ' = Dr a l gs cs r (t + 1) ∧ ∃ f o1 o4 o5, ρ' = [some (.val (.ref a)), o1, some (.dat (.int (t + 1))), some (.dat (.int f)), o4, o5]) ⟨rfl, _, _, _, _, rfl⟩ ?_ ?_ PassesOwn.never rfl
  · rintro i d ρ' μ' σ' H' B' hd ⟨rfl, f, o1, o4, o5, rfl⟩ hB S3
    obtain ⟨p, rfl, p0, p1⟩ : ∃ p : Int, d = .int p ∧ 0 < p ∧ p < 2 ^ 32 := by
      have hm := List.mem_of_getElem? hd
      simp only [List.mem_cons, List.not_mem_nil, or_false] at hm
      rcases hm with rfl | rfl | rfl <;> exact ⟨_, rfl, by decide, by decide⟩
    have pdv : 0 ≤ p / 53 ∧ p / 53 < 2 ^ 32 := by omega
    refine sy_set 4 S3 (jd_add (jd_mulS jd_int (S3.at 2) (cmulL ⟨by decide, by decide⟩)) (jd_div (S3.at 1) jd_int (wide_div (b := 64) (by decide) (by decide) (by decide) (by decide)))) (fun σ4 H4 S4 => ?_) sc_law_blended.nd
    refine sy_for S4 (jw_lst (js_dget hu S4 (S4.atV 0) (i := 0) rfl lk_cells)) (fun d ρ => ρ.set 5 (some (.dat d))) (js := [5]) (fun d ρ' _ => jg_name 5 sc_law_blended.nd)
      (fun i ρ' μ' => μ' = Dr a l gs cs r (t + 1) ∧ ∃ bl o5, 0 ≤ bl ∧ bl < 2 ^ 64 ∧ ρ' = [some (.val (.ref a)), some (.dat (.int p)), some (.dat (.int (t + 1))), some (.dat (.int f)), some (.dat (.int bl)), o5]) ⟨rfl, _, _, by omega, by omega, rfl⟩ ?_ ?_ PassesOwn.never rfl
    · rintro j d ρ' μ' σ' H' B' hd ⟨rfl, bl, o5, b0, b1, rfl⟩ hB S5
      rw [List.getElem?_map] at hd
      obtain ⟨c, hc, rfl⟩ := Option.map_eq_some_iff.mp hd
      have m0 := Int.emod_nonneg (bl * 69621 + c + (t + 1)) (by omega : p ≠ 0)
      have m1 := Int.emod_lt_of_pos (bl * 69621 + c + (t + 1)) p0
      exact sy_set 4 S5 (jd_mod (jd_int1 T.n_int (jd_add (jd_add (jd_mulS (S5.at 4) jd_int (cmulR ⟨by decide, by decide⟩)) (S5.at 5)) (S5.at 2))) (S5.at 1) p0) (fun σ6 H6 S6 => tB_nil ⟨_, _, ⟨rfl, _, _, m0, by omega, rfl⟩, S6⟩) sc_law_blended.nd
    · rintro ρ' μ' σ' H' ⟨rfl, bl, o5, b0, b1, rfl⟩ S5
      exact sy_set 3 S5 (jd_add (jd_mulS (S5.at 3) jd_int (cmulR ⟨by decide, by decide⟩)) (jd_mod (jd_int1 T.n_int (jd_pow (S5.at 4) jd_int ⟨by decide, by decide, by omega⟩)) (S5.at 1) p0)) (fun σ6 H6 S6 => tB_nil ⟨_, _, ⟨rfl, _, _, _, _, rfl⟩, S6⟩) sc_law_blended.nd
  · rintro ρ' μ' σ' H' ⟨rfl, f, o1, o4, o5, rfl⟩ S3
    exact sy_retE (S3.ev (S3.at 3) fun v H6 S6 _ pv => k v _ _ H6 ⟨a, l, gs, cs, r, t, f, rfl, rfl, rfl, rfl⟩ (S6.one pv))
/-- draws at a, l that were drawn from at most n times; what else they are does not matter -/
def Drs (a l : Addr) (n : Nat) (μ : Mu) : Prop := ∃ (gs cs : List Int) (r t : Int), gs.length ≤ 1000 ∧ 0 ≤ t ∧ t ≤ (n : Int) ∧ μ = Dr a l gs cs r t
theorem Drs.mono {a l : Addr} {n m : Nat} {μ : Mu} (h : Drs a l n μ) (k : n ≤ m) : Drs a l m μ := by
  obtain ⟨gs, cs, r, t, h1, h2, h3, h4⟩ := h
  exact ⟨gs, cs, r, t, h1, h2, by omega, h4⟩
def PreD : List Sv → Mu → Prop := fun ss μ => ∃ (a l : Addr) (gs cs : List Int) (r t room : Int), ss = [.val (.ref a), .dat (.int room)] ∧ 0 < room ∧ room < 2 ^ 64 ∧ gs.length ≤ 1000 ∧ 0 ≤ t ∧ t < 2 ^ 30 ∧ μ = Dr a l gs cs r t
def RD : List Sv → Mu → Sv → Mu → Prop := fun ss μ s μ' => ∃ (a l : Addr) (gs cs : List Int) (r t room z : Int) (gs' : List Int) (r' t' : Int), ss = [.val (.ref a), .dat (.int room)] ∧ μ = Dr a l gs cs r t ∧ s = .dat (.int z) ∧ 0 ≤ z ∧ z < room ∧ gs'.length ≤ gs.length ∧ t ≤ t' ∧ t' ≤ t + 1 ∧ μ' = Dr a l gs' cs r' t'
theorem dr_inj {a l a' l' : Addr} {gs cs gs' cs' : List Int} {r t r' t' : Int} (h : Dr a l gs cs r t = Dr a' l' gs' cs' r' t') : a = a' ∧ l = l' ∧ gs = gs' ∧ cs = cs' ∧ r = r' ∧ t = t' := by
  have mi : ∀ {xs ys : List Int}, xs.map PyData.int = ys.map PyData.int → xs = ys := fun {xs ys} e => List.map_inj_right (fun _ _ z => by cases z; rfl) |>.mp e
  have ms : ∀ {xs ys : List D}, xs.map Sv.dat = ys.map Sv.dat → xs = ys := fun {xs ys} e => List.map_inj_right (fun _ _ z => by cases z; rfl) |>.mp e
  unfold Dr drK iS at h
  simp only [List.cons.injEq, Prod.mk.injEq, Mo.dct.injEq, Mo.lst.injEq, Sv.val.injEq, V.ref.injEq, Sv.dat.injEq, PyData.int.injEq, PyData.list.injEq, true_and, and_true] at h
  obtain ⟨⟨h1, h2, h3, h4, h5⟩, h6, h7⟩ := h
  exact ⟨h1, h2, mi (ms h7), mi h3, h4, h5⟩
theorem preD {a l : Addr} {n : Nat} {μ : Mu} {room : Int} (h : Drs a l n μ) (h0 : 0 < room) (h1 : room < 2 ^ 64) (hn : n < 2 ^ 30) : PreD [.val (.ref a), .dat (.int room)] μ := by
  obtain ⟨gs, cs, r, t, q1, q2, q3, q4⟩ := h
  exact ⟨a, l, gs, cs, r, t, room, rfl, h0, h1, q1, q2, by omega, q4⟩
theorem rD {a l : Addr} {n : Nat} {μ μ' : Mu} {room : Int} {s : Sv} (h : Drs a l n μ) (q : RD [.val (.ref a), .dat (.int room)] μ s μ') : ∃ z, s = .dat (.int z) ∧ 0 ≤ z ∧ z < room ∧ Drs a l (n + 1) μ' := by
  obtain ⟨gs, cs, r, t, q1, q2, q3, rfl⟩ := h
  obtain ⟨a2, l2, gs2, cs2, r2, t2, room2, z, gs', r', t', e1, e2, rfl, z0, z1, g1, t1, t3, rfl⟩ := q
  obtain ⟨rfl, rfl, rfl, rfl, rfl, rfl⟩ := dr_inj e2
  cases e1
  exact ⟨z, rfl, z0, z1, gs', cs, r', t', by omega, by omega, by omega, rfl⟩
theorem fd_law_draw (T : Tx K mg) : Fd CX0 P w K mg base 2 "_law_draw" ["state", "room"] (spM K 2 PreD RD noF) := by
  have W := fd_law_blended (P := P) (w := w) (base := base) T
  obtain ⟨fd, F, hm⟩ := T.f_law_draw
  refine fd_mk F hm (ok_M F sc_law_draw rfl fun cdv A outer s H E B M0 vs ss μ D' hr hl hP S k kn => ?_) (fun _ _ _ _ _ _ us hl => match us, hl with | [_, _], _ => rfl)
  obtain ⟨a, l, gs, cs, r, t, room, rfl, h0, h64, g1, t0, tn, rfl⟩ := hP
  have hu : (bodyX P w K mg base N_law_draw "_law_draw" s_law_draw (He.ga K "_law_draw") cdv A outer s H E).A.units + 1 < cLine := by have := hr.units; omega
  have hu64 := hr.units
  -- behind the first statement
  have fin : ∀ (gs' : List Int) (r' t' : Int) (σ1 : L2.St) (H1 : Hp), gs'.length ≤ gs.length → t ≤ t' → t' ≤ t + 1 → Sy K B M0 [some (.val (.ref a)), some (.dat (.int room)), none] (Dr a l gs' cs r' t') σ1 H1 →
      tB (bodyX P w K mg base N_law_draw "_law_draw" s_law_draw (He.ga K "_law_draw") cdv A outer s H E) ((defBody s_law_draw).drop 1) D' σ1 H1 := fun gs' r' t' σ1 H1 g1' t0' tn' S1 => by
    refine sy_set 2 S1 (jd_mod (jd_int1 T.n_int (js_dget hu S1 (S1.atV 0) (i := 0) rfl lk_rest)) (S1.at 1) h0) (fun σ2 H2 S2 => ?_) sc_law_draw.nd
    refine sy_dput hu S2 (Jd.js (jd_div (js_dget hu S2 (S2.atV 0) (i := 0) rfl lk_rest) (S2.at 1) (wide_div (b := 64) h0 (by omega) (by decide) (by decide)))) (S2.atV 0) (i := 0) rfl (by decide : 4 < 1000) fun H3 S3 => ?_
    have S3 : Sy K B M0 [some (.val (.ref a)), some (.dat (.int room)), some (.dat (.int (r' % room)))] (Dr a l gs' cs (r' / room) t') σ2 H3 := S3
    refine sy_retE (S3.ev (S3.at 2) fun v H6 S6 _ pv => k v (.dat (.int (r' % room))) _ H6 ?_ (S6.one pv))
    exact ⟨a, l, gs, cs, r, t, room, _, gs', _, t', rfl, rfl, rfl, Int.emod_nonneg _ (by omega), Int.emod_lt_of_pos _ h0, g1', t0', tn', rfl⟩
  refine sy_when S (jt_eqI (js_dget hu S (S.atV 0) (i := 0) rfl lk_rest) jd_int) (fun hz H1 S1 => ?_) (fun hz H1 S1 => fin gs r t _ _ (Nat.le_refl _) (by omega) (by omega) S1)
  refine sy_dputE hu (leW (pe_ifExp pt_T pe_W pe_W) ?_)
  have hsh : SeqAt.shaped (.list (gs.map PyData.int)) = true := Lay.shaped (n := 1) (lay_lst.mpr fun x hx => by obtain ⟨i, _, rfl⟩ := List.mem_map.mp hx; exact lay_int) (by decide)
  refine S1.te (Jt.thaw (i := 1) (jt_ne hu64 (S1.frzE (i := 1) (js_dget hu S1 (S1.atV 0) (i := 0) rfl lk_great) rfl) (jd_lst ja_nil) hsh rfl)) fun H2 S2 _ => ?_
  rw [eqv_nil]
  cases gs with
  | nil =>
    show (if (!true) = true then _ else _)
    rw [if_neg (by decide)]
    refine jm_call (μ1 := Dr a l [] cs r t) (μ2 := []) S2 W (hr.mono (by decide)) (jsa_cons (S2.atV 0).js jsa_nil) rfl ⟨a, l, [], cs, r, t, rfl, t0, by omega, rfl⟩ fun v s' μ' H3 hR S3 hv => ?_
    obtain ⟨a2, l2, gs2, cs2, r2, t2, n, e1, e2, rfl, rfl⟩ := hR
    obtain ⟨rfl, rfl, rfl, rfl, rfl, rfl⟩ := dr_inj e2
    refine ⟨B, M0, _, Dr a l [] cs r (t + 1), .dat (.int n), 0, a, _, S3, hv, S3.atV 0, rfl, (by decide : 4 < 1000), fun H4 S4 => tB_nil (fin [] n (t + 1) _ _ (Nat.le_refl _) (by omega) (by omega) S4)⟩
  | cons g gs =>
    show (if (!false) = true then _ else _)
    rw [if_pos (by decide)]
    refine jm_pop0 (i := 1) (xs := iS gs) S2 (js_dget hu S2 (S2.atV 0) (i := 0) rfl lk_great) rfl (by unfold iS; simp at g1 ⊢; omega) fun v H3 S3 hv => ?_
    have S3 : Sy K B M0 _ (Dr a l gs cs r t) _ H3 := S3
    exact ⟨B, M0, _, Dr a l gs cs r t, .dat (.int g), 0, a, _, S3, hv, S3.atV 0, rfl, (by decide : 4 < 1000), fun H4 S4 => tB_nil (fin gs g t _ _ (by simp) (by omega) (by omega) S4)⟩
def PreP : List Sv → Mu → Prop := fun ss μ => ∃ (a l : Addr) (n : Nat) (xs : List D), ss = [.val (.ref a), .dat (.list xs)] ∧ 0 < xs.length ∧ xs.length ≤ 1000 ∧ n < 2 ^ 30 ∧ Drs a l n μ
def RP : List Sv → Mu → Sv → Mu → Prop := fun ss μ s μ' => ∃ (a : Addr) (xs : List D) (x : D) (z : Sv), ss = [.val (.ref a), .dat (.list xs)] ∧ x ∈ xs ∧ s = .dat x ∧ RD [.val (.ref a), .dat (.int xs.length)] μ z μ'
theorem rP {a l : Addr} {n : Nat} {μ μ' : Mu} {xs : List D} {s : Sv} (h : Drs a l n μ) (q : RP [.val (.ref a), .dat (.list xs)] μ s μ') : ∃ x, s = .dat x ∧ x ∈ xs ∧ Drs a l (n + 1) μ' := by
  obtain ⟨a2, xs2, x, z, e, hx, rfl, r⟩ := q
  cases e
  obtain ⟨_, _, _, _, h5⟩ := rD h r
  exact ⟨x, rfl, hx, h5⟩
theorem fd_law_pick (T : Tx K mg) : Fd CX0 P w K mg base 3 "_law_pick" ["state", "some"] (spM K 2 PreP RP noF) := by
  have W := fd_law_draw (P := P) (w := w) (base := base) T
  obtain ⟨fd, F, hm⟩ := T.f_law_pick
  refine fd_mk F hm (ok_M F sc_law_pick rfl fun cdv A outer s H E B M0 vs ss μ D' hr hl hP S k kn => ?_) (fun _ _ _ _ _ _ us hl => match us, hl with | [_, _], _ => rfl)
  obtain ⟨a, l, n, xs, rfl, h0, h1, hn, hD⟩ := hP
  obtain ⟨v1, hv1, hd1⟩ := S.sl 1 _ rfl
  refine sy_retE (leW (pe_ix ix_list pe_W pe_W (by exact fun _ _ => rfl)) (S.evV (jv_var 1 hv1) fun H1 S1 x1 => ?_))
  refine jm_call1 S1 W (hr.mono (by decide)) (jsa_cons (S1.atV 0).js (jsa_cons (jd_len T.n_len (S1.at 1) (.inr rfl)).js jsa_nil)) rfl (preD hD (by omega) (by omega) hn) fun w' s' μ' H3 hR S3 hv => ?_
  obtain ⟨z, rfl, z0, z1, hD'⟩ := rD hD hR
  obtain ⟨v2, hv2, hd2⟩ := S3.sl 1 _ rfl
  rw [hv1] at hv2
  cases hv2
  obtain ⟨p, ys, rfl, e2, e3⟩ := dLst hd2
  obtain ⟨i, rfl⟩ : ∃ i : Nat, z = (i : Int) := ⟨z.toNat, by omega⟩
  have hi : i < xs.length := by omega
  obtain ⟨u, h4, h5⟩ := e3.get (List.getElem?_eq_getElem hi)
  exact ⟨p, ys, (i : Int), u, rfl, dInt hv, ex_l hid_le e2, atI_nat h4, k u (.dat xs[i]) _ H3 ⟨a, xs, xs[i], _, rfl, List.getElem_mem hi, rfl, hR⟩ (S3.one h5)⟩
/-- so many draws, at most, lie between -/
def Stp (k : Nat) (μ μ' : Mu) : Prop := ∀ a l n, Drs a l n μ → Drs a l (n + k) μ'
theorem Stp.trans {j k : Nat} {μ1 μ2 μ3 : Mu} (h1 : Stp j μ1 μ2) (h2 : Stp k μ2 μ3) : Stp (j + k) μ1 μ3 := fun a l n h => by
  have := h2 a l _ (h1 a l n h)
  rwa [Nat.add_assoc] at this
theorem Stp.zero {μ : Mu} : Stp 0 μ μ := fun a l n h => h
theorem Stp.le {j k : Nat} {μ1 μ2 : Mu} (h : Stp j μ1 μ2) (q : j ≤ k) : Stp k μ1 μ2 := fun a l n x => (h a l n x).mono (by omega)
theorem sD {a : Addr} {room : Int} {μ μ' : Mu} {s : Sv} (q : RD [.val (.ref a), .dat (.int room)] μ s μ') : ∃ z, s = .dat (.int z) ∧ 0 ≤ z ∧ z < room ∧ Stp 1 μ μ' := by
  obtain ⟨a2, l2, gs2, cs2, r2, t2, room2, z, gs', r', t', e1, rfl, rfl, z0, z1, g1, t1, t3, rfl⟩ := q
  cases e1
  refine ⟨z, rfl, z0, z1, fun a l n h => ?_⟩
  obtain ⟨gs, cs, r, t, q1, q2, q3, e2⟩ := h
  obtain ⟨rfl, rfl, rfl, rfl, rfl, rfl⟩ := dr_inj e2
  exact ⟨gs', cs2, r', t', by omega, by omega, by omega, rfl⟩
theorem sP {a : Addr} {xs : List D} {μ μ' : Mu} {s : Sv} (q : RP [.val (.ref a), .dat (.list xs)] μ s μ') : ∃ x, s = .dat x ∧ x ∈ xs ∧ Stp 1 μ μ' := by
  obtain ⟨a2, xs2, x, z, e, hx, rfl, r⟩ := q
  cases e
  obtain ⟨_, _, _, _, h5⟩ := sD r
  exact ⟨x, rfl, hx, h5⟩
def pr (d : D) : D := .tuple [d, d]
theorem snoc_cases {α : Type} : ∀ xs : List α, xs = [] ∨ ∃ ys y, xs = ys ++ [y]
  | [] => .inl rfl
  | x :: xs => by
    rcases snoc_cases xs with rfl | ⟨ys, y, rfl⟩
    · exact .inr ⟨[], x, rfl⟩
    · exact .inr ⟨x :: ys, y, rfl⟩
theorem fd_law_same (T : Tx K mg) : Fd CX0 P w K mg base 2 "_law_same" ["found", "due"] (spD K 2 fun ds r => ∃ a, ds = [a, a] ∧ Lay 60 a ∧ sz a ≤ 80000 ∧ r = .bool true) := by
  have W := fd_law_is_truth (P := P) (w := w) (base := base) T
  obtain ⟨fd, F, hm⟩ := T.f_law_same
  refine fd_mk F hm (ok_D F sc_law_same rfl fun cdv A outer s H E M vs ds d D' hr hl hR S k _ => ?_) (fun _ _ _ _ _ _ us hl => match us, hl with | [_, _], _ => rfl)
  obtain ⟨a, rfl, hL, hz, rfl⟩ := hR
  have nd := sc_law_same.nd
  have hu := hr.units
  refine sy_setE 2 (S.evN (jn_lst (ja_cons (jd_tup (ja_cons (S.at 0) (ja_cons (S.at 1) ja_nil))) ja_nil)) fun c H1 S1 => ?_) nd
  have S1 := S1.set 2 (s := .val (.ref c)) (v := .ref c) rfl
  refine sy_while S1 (fun m ρ' μ' => ∃ ds, (∀ d ∈ ds, Lay 60 d) ∧ m = szs ds ∧ m ≤ 80000 ∧ μ' = [(c, .lst ((ds.map pr).map .dat))] ∧ ∃ o3 o4 o5 o6 o7 o8, ρ' = [some (.dat a), some (.dat a), some (.val (.ref c)), o3, o4, o5, o6, o7, o8]) (szs [a]) ⟨[a], by simpa using hL, rfl, by simpa [szs] using hz, rfl, _, _, _, _, _, _, rfl⟩ ?_ PassesOwn.never
  rintro m ρ' μ' σ' H' ⟨ds, hds, rfl, hm8, rfl, o3, o4, o5, o6, o7, o8, rfl⟩ S2
  have hsh : SeqAt.shaped (.list (ds.map pr)) = true := Lay.shaped (n := 62) (lay_lst.mpr fun x hx => by
    obtain ⟨d, hd, rfl⟩ := List.mem_map.mp hx
    refine lay_tup.mpr fun y hy => ?_
    have : y = d := by simpa using hy
    rw [this]; exact hds d hd) (by decide)
  refine ⟨_, Jt.thaw (i := 0) (jt_ne hu (S2.frzE (i := 0) (S2.atV 2).js rfl) (jd_lst ja_nil) hsh rfl), fun hp H3 S3 => ?_, fun hp H3 S3 => ?_⟩
  · rw [eqv_nil] at hp
    rcases snoc_cases ds with rfl | ⟨es, d, rfl⟩
    · cases hp
    have hd := hds d (by simp)
    have hes : ∀ e ∈ es, Lay 60 e := fun e he => hds e (by simp [he])
    have hsz : szs (es ++ [d]) = szs es + sz d := by rw [szs_app]; simp [szs]
    have dp := sz_pos d
    have S3 : Sy K H M [some (.dat a), some (.dat a), some (.val (.ref c)), o3, o4, o5, o6, o7, o8] [(c, .lst ((es.map pr).map .dat ++ [.dat (pr d)]))] σ' H3 := by
      have e : ((es ++ [d]).map pr).map Sv.dat = (es.map pr).map .dat ++ [.dat (pr d)] := by simp
      rw [← e]; exact S3
    refine sy_asgE (jm_pop (i := 0) (xs := (es.map pr).map .dat) (s := .dat (pr d)) S3 (S3.atV 2) rfl fun v H4 S4 hv => ?_)
    have hv : Dp K (hid (adr M [(c, .lst ((es.map pr).map .dat))]) H4) v (.tuple [d, d]) := hv
    refine (jg_tup rfl (jgs_cons (jg_name 3 nd) (jgs_cons (jg_name 4 nd) jgs_nil))) _ _ _ _ _ _ S4 hv _ fun σ5 S5 _ _ => ?_
    have S5 : Sy K H M [some (.dat a), some (.dat a), some (.val (.ref c)), some (.dat d), some (.dat d), o5, o6, o7, o8] [(c, .lst ((es.map pr).map .dat))] σ5 H4 := S5
    -- behind a turn that gives nothing new
    have fin : ∀ {σ6 H6 o5 o6 o7 o8}, Sy K H M [some (.dat a), some (.dat a), some (.val (.ref c)), some (.dat d), some (.dat d), o5, o6, o7, o8] [(c, .lst ((es.map pr).map .dat))] σ6 H6 → ∃ m2 ρ2 μ2, m2 < szs (es ++ [d]) ∧ (∃ ds, (∀ d ∈ ds, Lay 60 d) ∧ m2 = szs ds ∧ m2 ≤ 80000 ∧ μ2 = [(c, .lst ((ds.map pr).map .dat))] ∧ ∃ o3 o4 o5 o6 o7 o8, ρ2 = [some (.dat a), some (.dat a), some (.val (.ref c)), o3, o4, o5, o6, o7, o8]) ∧ Sy K H M ρ2 μ2 σ6 H6 :=
      fun S6 => ⟨_, _, _, by omega, ⟨es, hes, rfl, by omega, rfl, _, _, _, _, _, _, rfl⟩, S6⟩
    refine sy_if S5 (jt_or (jt_isN (S5.at 4)) fun _ => jt_val (jd_isi T.n_isinstance T.n_bool boot_bool (S5.at 4) (kit_bool d))) (fun h1 H6 S6 => ?_) (fun h1 H6 S6 => ?_)
    · refine sy_when (b := false) S6 (jt_if (jt_isN (S6.at 4)) (fun h => Jt.is (jt_notN (S6.at 3)) (by rw [h]; rfl)) (fun h => ?_)) (fun h => by cases h) fun _ H7 S7 => tB_nil (tB_nil (fin S7))
      cases d with
      | bool b => exact Jt.is (jt_not (jt_val (jd_call W (hr.mono (by decide)) (ja_cons (S6.at 3) (ja_cons (S6.at 4) ja_nil)) rfl ⟨b, b, rfl, rfl⟩))) (by cases b <;> rfl)
      | none => cases h
      | int i => cases h1
      | str x => cases h1
      | list x => cases h1
      | tuple x => cases h1
      | dict x => cases h1
    · refine sy_if S6 (jt_val (jd_isi2 T.n_isinstance T.n_int T.n_str boot_int (by decide +kernel) (S6.at 4) (kit_int d) (kit_str d))) (fun h2 H7 S7 => ?_) (fun h2 H7 S7 => ?_)
      · have hnb : dIsB d = false := by cases d <;> first | rfl | cases h1
        have hee : PyData.eqv d d = true := by
          cases d with
          | int i => simp [PyData.eqv]
          | str x => simp [PyData.eqv]
          | bool b => cases h1
          | none => cases h1
          | list x => cases h2
          | tuple x => cases h2
          | dict x => cases h2
        refine sy_when S7 (jt_or3 (jt_val (jd_isi T.n_isinstance T.n_bool boot_bool (S7.at 3) (kit_bool d))) (fun _ => jt_ne hu (jd_isi T.n_isinstance T.n_int boot_int (S7.at 3) (kit_int d)) (jd_isi T.n_isinstance T.n_int boot_int (S7.at 4) (kit_int d)) rfl rfl) (fun _ _ => jt_ne hu (S7.at 3) (S7.at 4) (hd.shaped (by decide)) (hd.shaped (by decide)))) (fun h => ?_) fun _ H8 S8 => tB_nil (tB_nil (tB_nil (fin S8)))
        rw [hnb, hee] at h
        cases q : dIsI d <;> rw [q] at h <;> cases h
      · refine sy_if S7 (jt_val (jd_isi T.n_isinstance T.n_dict (by decide +kernel) (S7.at 4) (kit_dict d))) (fun h3 H8 S8 => ?_) (fun h3 H8 S8 => ?_)
        · cases d with
          | dict x => exact absurd hd.1 (by simp [PyData.canLay0])
          | int i => cases h3
          | str x => cases h3
          | bool b => cases h3
          | none => cases h3
          | list x => cases h3
          | tuple x => cases h3
        · obtain ⟨xs, hx, hxs, hlen⟩ : ∃ xs, (d = .tuple xs ∨ d = .list xs) ∧ (∀ x ∈ xs, Lay 60 x) ∧ sz d = szs xs + 1 := by
            cases d with
            | list x => exact ⟨x, .inr rfl, fun y hy => (lay_lst.mp (hd.mono (by decide : 60 ≤ 59 + 2)) y hy).mono (by decide), rfl⟩
            | tuple x => exact ⟨x, .inl rfl, fun y hy => (lay_tup.mp (hd.mono (by decide : 60 ≤ 59 + 2)) y hy).mono (by decide), rfl⟩
            | dict x => cases h3
            | int i => cases h2
            | str x => cases h2
            | bool b => cases h1
            | none => cases h1
          have xl := szs_len xs
          have al := szs_len es
          have ia : ∀ {n : Nat} {x : Str} {p : Pos} (S : Sy K H M [some (.dat a), some (.dat a), some (.val (.ref c)), some (.dat d), some (.dat d), o5, o6, o7, o8] [(c, .lst ((es.map pr).map .dat))] σ5 H8), True := fun _ => trivial
          refine sy_set 5 S8 (jd_lst (ja_cons (jd_and (k := dIsT d) (d := .bool (dIsT d)) (jd_isi T.n_isinstance T.n_tuple boot_tuple (S8.at 3) (kit_tuple d)) (fun h => by rw [h]) fun h => Jd.is (jd_isi T.n_isinstance T.n_tuple boot_tuple (S8.at 4) (kit_tuple d)) (by rw [h]))
            (ja_cons (jd_and (k := dIsL d) (d := .bool (dIsL d)) (jd_isi T.n_isinstance T.n_list (by decide +kernel) (S8.at 3) (kit_list d)) (fun h => by rw [h]) fun h => Jd.is (jd_isi T.n_isinstance T.n_list (by decide +kernel) (S8.at 4) (kit_list d)) (by rw [h])) ja_nil))) (fun σ9 H9 S9 => ?_) nd
          refine sy_when S9 (jt_or (jt_notIn (by have := hr.un; omega) jd_bl (S9.at 5) rfl rfl rfl) fun _ => jt_neI (jd_len T.n_len (S9.at 3) hx) (jd_len T.n_len (S9.at 4) hx)) (fun h => ?_) fun _ H10 S10 => ?_
          · rcases hx with rfl | rfl <;> simp [dIsT, dIsL, PyData.eqv] at h
          · refine sy_ext S10 (S10.atV 2) (sy_lcN S10 (ds := xs.map pr) (by
                rw [show xs.map pr = zipD xs xs from (zip_same xs).symm]
                rcases hx with rfl | rfl
                · exact jw_zipT T.n_zip (S10.at 3) (S10.at 4)
                · exact jw_zipL T.n_zip (S10.at 3) (S10.at 4)) ((xs.map pr).map some) (by simp) (by simp; omega) (fun d ρ => match d with | .tuple [x, y] => (ρ.set 7 (some (.dat x))).set 8 (some (.dat y)) | _ => ρ) (js := [7, 8]) (own := [("left", 7), ("right", 8)]) (by simp) ?_ ?_ ?_ (blkOk_by (by rfl)) rfl nd) (i := 0) rfl (by simp; omega) fun H11 S11 => tB_nil (tB_nil (tB_nil (tB_nil ?_)))
            · rintro _ y ⟨s, H, C, cl, fp, rfl⟩ hy
              obtain ⟨x, _, rfl⟩ := List.mem_map.mp hy
              exact jg_tup rfl (jgs_cons (jg_name 7 nd) (jgs_cons (jg_name 8 nd) jgs_nil))
            · rintro i y o _ B' M' σ' H' h1 h2 ⟨s, H, C, cl, fp, rfl⟩ S'
              rw [List.getElem?_map, h1] at h2
              cases h2
              exact jts_nil
            · rintro i y x _ B' M' σ' H' h1 h2 ⟨s, H, C, cl, fp, rfl⟩ S'
              rw [List.getElem?_map, h1] at h2
              cases h2
              obtain ⟨x, _, rfl⟩ := List.mem_map.mp (List.mem_of_getElem? h1)
              exact jd_tup (ja_cons (S'.at 7) (ja_cons (S'.at 8) ja_nil))
            · have e : ((es ++ xs).map pr).map Sv.dat = (es.map pr).map .dat ++ ((((xs.map pr).map some).filterMap id).map .dat) := by rw [fm_some]; simp
              refine ⟨_, _, _, ?_, ⟨es ++ xs, fun e he => ?_, rfl, ?_, ?_, _, _, _, _, _, _, rfl⟩, S11⟩
              · rw [szs_app]; omega
              · rcases List.mem_append.mp he with he | he
                · exact hes e he
                · exact hxs e he
              · rw [szs_app]; omega
              · rw [e]; rfl
  · rw [eqv_nil] at hp
    exact sy_ret S3 jd_bl fun v H4 x _ p => k v H4 x p
end K60

set_option maxHeartbeats 4000000
namespace K60
open PySem PySem.Spec PyProof.Rows L2 J Evl
variable {P : Program} {w : World} {K : PySem.W.Frag} {mg : Str → Option Value} {base : Heap}
/-! ### tuples of chances with the sum 1 -/
def isTp : D → Bool
  | .tuple l => l.all isC && decide ((l.map toR).sum = 1)
  | _ => false
def AskT (a : D) : Prop := ∀ l, a = .tuple l → l.length ≤ 1000 ∧ (∀ x ∈ l, Sh x) ∧ (l.all isC = true → SumOk (l.map toR))
theorem fd_need_tuple (T : Tx K mg) : Fd (CX P w) P w K mg base 4 "need_tuple" ["shares"] (spX K 1 (fun ds d => ∃ a, ds = [a] ∧ AskT a ∧ isTp a = true ∧ d = .none) fun ds c => ∃ a, ds = [a] ∧ AskT a ∧ isTp a = false ∧ c = .ref (He.ga K "BadShares")) := by
  have W1 := fd_is_chance (P := P) (w := w) (base := base) T
  have W2 := fd_total (P := P) (w := w) (base := base) T
  obtain ⟨fd, F, hm⟩ := T.f_need_tuple
  refine fd_mk F hm (ok_X F sc_need_tuple rfl fun cdv A outer s H E M vs ds D' hr hl S hR => ?_) (fun _ _ _ _ _ _ us hl => match us, hl with | [_], _ => rfl)
  obtain ⟨a, rfl, hz⟩ : ∃ a, ds = [a] ∧ AskT a := by
    rcases hR with ⟨d, ⟨a, h1, h2, _⟩, _⟩ | ⟨c, ⟨a, h1, h2, _⟩, _⟩ <;> exact ⟨a, h1, h2⟩
  have hu := hr.units
  have yes : isTp a = true → ∀ σ' H', Ex H H' → D'.nx σ' H' := fun h => by
    rcases hR with ⟨d, ⟨_, h1, _, h3, rfl⟩, _, kn⟩ | ⟨c, ⟨_, h1, h2, h3, rfl⟩, kE⟩
    · exact kn rfl
    · cases h1; rw [h3] at h; cases h
  have no : isTp a = false → ∀ H', Ex H H' → E (.ref (He.ga K "BadShares")) none H' := fun h => by
    rcases hR with ⟨d, ⟨_, h1, _, h3, rfl⟩, _, kn⟩ | ⟨c, ⟨_, h1, h2, h3, rfl⟩, kE⟩
    · cases h1; rw [h3] at h; cases h
    · exact kE
  by_cases ht : dIsT a = true
  · obtain ⟨ts, rfl⟩ : ∃ ts, a = .tuple ts := by cases a <;> first | (cases ht; done) | exact ⟨_, rfl⟩
    obtain ⟨z1, z2, z3⟩ := hz ts rfl
    refine sy_when (b := !true || (!(ts.map isC).all id || !decide ((ts.map toR).sum = 1))) S (jt_or3 (jt_not (jt_val (jd_isi T.n_isinstance T.n_tuple boot_tuple (S.at 0) (kit_tuple (.tuple ts))))) (fun _ => jt_not (jt_val (jd_all rfl T.n_all (Jd.is (Jn.jd (sy_lcM (α := D) (g := id) S (by rw [List.map_id]; exact jw_tup (S.at 0)) (fun d => .bool (isC d)) (by omega) (fun d ρ => ρ.set 1 (some (.dat d))) (js := [1]) (own := [("share", 1)]) (by simp) ?_ ?_ (blkOk_by (by rfl)) rfl sc_need_tuple.nd)) (by rw [List.map_map]; rfl))))) (fun _ hc => ?_)) (fun h H1 S1 => ?_) (fun h H1 S1 => ?_)
    · rintro _ d ⟨s, H, C, cl, fp, rfl⟩ _
      exact jg_name 1 sc_need_tuple.nd
    · rintro i d _ B' M' σ' H' h1 ⟨s, H, C, cl, fp, rfl⟩ S'
      exact jd_call W1 (hr.mono (by decide)) (ja_cons (S'.at 1) ja_nil) rfl ⟨_, rfl, z2 d (List.mem_of_getElem? h1), rfl⟩
    · have hall : ts.all isC = true := by rw [all_map] at hc; simpa using hc
      have e : ts = (ts.map toR).map dR := by
        rw [List.map_map]
        conv => lhs; rw [← List.map_id ts]
        refine List.map_congr_left fun x hx => ?_
        obtain ⟨r, rfl, _⟩ := isC_of (List.all_eq_true.mp hall x hx)
        show dR r = dR (toR (dR r))
        rw [toR_dR]
      refine Jt.is (jt_ne hu (jd_call W2 (hr.mono (by decide)) (ja_cons (S.at 0) ja_nil) rfl ⟨true, ts.map toR, by show _ = [PyData.tuple _]; rw [← e], z3 hall, rfl⟩) (jd_glob T.c_ONE.1 (v := .ref (He.ga K "ONE")) (d := dR 1) rfl (.tup (T.c_ONE.2 _) (.cons (.int 1) (.cons (.int 1) .nil)))) (lay_dR.shaped (by decide)) (lay_dR.shaped (by decide))) (by rw [eqv_dR])
    · refine tB_raiseV T.x_BadShares T.g_BadShares bodyE_tk (no ?_ H1 S1.bs)
      show (ts.all isC && decide ((ts.map toR).sum = 1)) = false
      rw [all_map] at h
      cases q1 : ts.all isC <;> cases q2 : decide ((ts.map toR).sum = 1) <;> simp_all
    · refine tB_nil (yes ?_ _ _ S1.bs)
      show (ts.all isC && decide ((ts.map toR).sum = 1)) = true
      rw [all_map] at h
      cases q1 : ts.all isC <;> cases q2 : decide ((ts.map toR).sum = 1) <;> simp_all
  · have ht : dIsT a = false := by simpa using ht
    refine sy_when (b := !(dIsT a) || (true || true)) S (jt_or3 (jt_not (jt_val (jd_isi T.n_isinstance T.n_tuple boot_tuple (S.at 0) (kit_tuple a)))) (fun z => by rw [ht] at z; cases z) (fun z => by rw [ht] at z; cases z)) (fun h H1 S1 => ?_) (fun h H1 S1 => by rw [ht] at h; cases h)
    exact tB_raiseV T.x_BadShares T.g_BadShares bodyE_tk (no (by cases a <;> first | rfl | cases ht) H1 S1.bs)
/-- two tuples of few shares, not too long to work with -/
structure ApOk (a b : List Rat) : Prop where
  sa : ∃ n, ShL n a ∧ ShL n b ∧ n ≤ 8
  ba : SumOk a
  bb : SumOk b
  bd : SumOk (absd a b)
theorem ShL.isT {n : Nat} {l : List Rat} (h : ShL n l) : isTp (rT l) = true := by
  show ((l.map dR).all isC && decide (((l.map dR).map toR).sum = 1)) = true
  have e : (l.map dR).map toR = l := by rw [List.map_map]; conv => rhs; rw [← List.map_id l]
                                        exact List.map_congr_left fun x _ => toR_dR x
  rw [e, decide_eq_true h.2.2, Bool.and_true, List.all_eq_true]
  intro x hx
  obtain ⟨r, hr, rfl⟩ := List.mem_map.mp hx
  rw [isC_dR, decide_eq_true (h.2.1 r hr), decide_eq_true (h.le hr)]; rfl
theorem askT_rT {n : Nat} {l : List Rat} (h : ShL n l) (hn : n ≤ 8) (hs : SumOk l) : AskT (rT l) := fun m e => by
  cases e
  have e : (l.map dR).map toR = l := by rw [List.map_map]; conv => rhs; rw [← List.map_id l]
                                        exact List.map_congr_left fun x _ => toR_dR x
  refine ⟨by rw [List.length_map, h.1]; omega, fun x hx => ?_, fun _ => by rw [e]; exact hs⟩
  obtain ⟨r, hr, rfl⟩ := List.mem_map.mp hx
  exact sh_dR r
/-- .. a wrong one, or two of unlike lengths -/
def FlA (K : PySem.W.Frag) : List D → Value → Prop := fun ds c => (∃ a b, ds = [a, b] ∧ AskT a ∧ isTp a = false ∧ c = .ref (He.ga K "BadShares")) ∨ (∃ a b, ds = [a, b] ∧ AskT a ∧ isTp a = true ∧ AskT b ∧ isTp b = false ∧ c = .ref (He.ga K "BadShares")) ∨
  ∃ a b, ds = [.tuple a, .tuple b] ∧ AskT (.tuple a) ∧ isTp (.tuple a) = true ∧ AskT (.tuple b) ∧ isTp (.tuple b) = true ∧ a.length ≠ b.length ∧ c = .ref (He.ga K "OtherLength")
theorem bz_half : Bz 2 (1 / 2) := by unfold Bz; decide +kernel
theorem half_dR : dR (1 / 2) = .tuple [.int 1, .int 2] := by
  have e1 : (1 / 2 : Rat).num = 1 := by decide +kernel
  have e2 : (1 / 2 : Rat).den = 2 := by decide +kernel
  unfold dR
  rw [e1, e2]; rfl
theorem ok_apart (T : Tx K mg) : ∃ fd, FnOk P w K mg base (CX P w) 5 (He.ga K "apart") fd ["one", "other"] (spX K 2 (fun ds d => ∃ a b, ds = [rT a, rT b] ∧ ApOk a b ∧ d = dR (apartR a b)) (FlA K)) ∧ FnP K "apart" "apart" s_apart (He.ga K "apart") fd ∧ mg "apart" = some (.ref (He.ga K "apart")) := by
  have W1 := fd_need_tuple (P := P) (w := w) (base := base) T
  have W3 := fd_total (P := P) (w := w) (base := base) T
  have W4 := fd_times (P := P) (w := w) (base := base) T
  have W5 := fd_minus (P := P) (w := w) (base := base) T
  obtain ⟨fd, F, hm⟩ := T.f_apart
  refine ⟨fd, ok_X F sc_apart rfl fun cdv A outer st H E M vs ds D' hr hl S hR => ?_, F, hm⟩
  have nd := sc_apart.nd
  rcases hR with ⟨d, ⟨a, b, rfl, h, rfl⟩, kr, _⟩ | ⟨c, ⟨a, b, rfl, ha, hn, rfl⟩ | ⟨a, b, rfl, ha, ha2, hb, hn, rfl⟩ | ⟨a, b, rfl, ha, ha2, hb, hb2, hn, rfl⟩, kE⟩
  · obtain ⟨n, s1, s2, n8⟩ := h.sa
    refine sy_expr S (jd_callX W1 (hr.mono (by decide)) (ja_cons (S.at 0) ja_nil) rfl ⟨_, rfl, askT_rT s1 n8 h.ba, s1.isT, rfl⟩) fun H1 S1 => ?_
    refine sy_expr S1 (jd_callX W1 (hr.mono (by decide)) (ja_cons (S1.at 1) ja_nil) rfl ⟨_, rfl, askT_rT s2 n8 h.bb, s2.isT, rfl⟩) fun H2 S2 => ?_
    have la := s1.1
    have lb := s2.1
    refine sy_when S2 (jt_neI (jd_len T.n_len (S2.at 0) (.inl rfl)) (jd_len T.n_len (S2.at 1) (.inl rfl))) (fun q H3 S3 => ?_) fun _ H3 S3 => ?_
    · rw [List.length_map, List.length_map, la, lb, decide_eq_true rfl] at q; cases q
    · refine sy_setLcM 2 (xs := a.zip b) (g := fun p => .tuple [dR p.1, dR p.2]) S3 (by rw [← zipD_map]; exact jw_zipB (b1 := true) (b2 := true) T.n_zip (S3.at 0) (S3.at 1)) (fun p => dR (p.1 - p.2)) (zip_len (by omega)) (fun d ρ => match d with | .tuple [x, y] => (ρ.set 3 (some (.dat x))).set 4 (some (.dat y)) | _ => ρ) (js := [3, 4]) (own := [("first", 3), ("second", 4)]) (by simp) ?_ ?_ (blkOk_by (by rfl)) rfl nd (fun σ4 H4 S4 => ?_)
      · rintro _ d ⟨s, H, C, cl, fp, rfl⟩ _
        exact jg_tup rfl (jgs_cons (jg_name 3 nd) (jgs_cons (jg_name 4 nd) jgs_nil))
      · rintro i ⟨x, y⟩ _ B' M' σ' H' hx ⟨s2, H, C, cl, fp, rfl⟩ S'
        have m := List.mem_of_getElem? hx
        exact jd_call W5 (hr.mono (by decide)) (ja_cons (S'.at 3) (ja_cons (S'.at 4) ja_nil)) rfl ⟨x, y, rfl, h.ba.1 x (List.of_mem_zip m).1, h.bb.1 y (List.of_mem_zip m).2, rfl⟩
      · have hsum : Bz 4000 (absd a b).sum := by have := h.bd.2 (absd a b).length; rwa [List.take_length] at this
        refine sy_ret S4 (jd_call W4 (hr.mono (by decide)) (ja_cons (Jd.is (d' := dR (1 / 2)) (jd_tup (ja_cons jd_int (ja_cons jd_int ja_nil))) half_dR.symm) (ja_cons (jd_call W3 (hr.mono (by decide)) (ja_cons (Jd.is (d' := .list ((absd a b).map dR)) (Jn.jd (sy_lcM (xs := a.zip b) (g := fun p => dR (p.1 - p.2)) S4 (jw_lst (S4.at 2)) (fun p => dR (p.1 - p.2).abs) (zip_len (by omega)) (fun d ρ => ρ.set 5 (some (.dat d))) (js := [5]) (own := [("gap", 5)]) (by simp) ?_ ?_ (blkOk_by (by rfl)) rfl nd)) (by unfold absd; rw [List.map_map]; rfl)) ja_nil) rfl ⟨false, _, rfl, h.bd, rfl⟩) ja_nil)) rfl ⟨_, _, rfl, bz_half.mono (by decide), hsum, rfl⟩) fun v H' x _ p => kr v H' x p
        · rintro _ d ⟨s, H, C, cl, fp, rfl⟩ _
          exact jg_name 5 nd
        · rintro i ⟨x, y⟩ _ B' M' σ' H' hx ⟨s2, H, C, cl, fp, rfl⟩ S'
          exact Jd.is (jd_tup (ja_cons (jd_abs T.n_abs (jd_ixT (n := 0) (S'.at 5) jd_int rfl rfl)) (ja_cons (jd_ixT (n := 1) (S'.at 5) jd_int rfl rfl) ja_nil))) (abs_dR _)
  · exact tB_exprX (jx_call W1 (hr.mono (by decide)) bodyE_tk S.all (ja_cons (S.at 0) ja_nil) rfl ⟨a, rfl, ha, hn, rfl⟩ fun H' x => kE H' (S.bs.trans x))
  · refine sy_expr S (jd_callX W1 (hr.mono (by decide)) (ja_cons (S.at 0) ja_nil) rfl ⟨_, rfl, ha, ha2, rfl⟩) fun H1 S1 => ?_
    exact tB_exprX (jx_call W1 (hr.mono (by decide)) bodyE_tk S1.all (ja_cons (S1.at 1) ja_nil) rfl ⟨b, rfl, hb, hn, rfl⟩ fun H' x => kE H' (S1.bs.trans x))
  · refine sy_expr S (jd_callX W1 (hr.mono (by decide)) (ja_cons (S.at 0) ja_nil) rfl ⟨_, rfl, ha, ha2, rfl⟩) fun H1 S1 => ?_
    refine sy_expr S1 (jd_callX W1 (hr.mono (by decide)) (ja_cons (S1.at 1) ja_nil) rfl ⟨_, rfl, hb, hb2, rfl⟩) fun H2 S2 => ?_
    refine sy_when S2 (jt_neI (jd_len T.n_len (S2.at 0) (.inl rfl)) (jd_len T.n_len (S2.at 1) (.inl rfl))) (fun q H3 S3 => ?_) fun q H3 S3 => ?_
    · exact tB_raiseV T.x_OtherLength T.g_OtherLength bodyE_tk (kE H3 S3.bs)
    · rw [decide_eq_false (by omega)] at q; cases q
theorem fd_apart (T : Tx K mg) : Fd (CX P w) P w K mg base 5 "apart" ["one", "other"] (spX K 2 (fun ds d => ∃ a b, ds = [rT a, rT b] ∧ ApOk a b ∧ d = dR (apartR a b)) (FlA K)) := by
  obtain ⟨fd, ok, F, hm⟩ := ok_apart (P := P) (w := w) (base := base) T
  exact fd_mk F hm ok (fun _ _ _ _ _ _ us hl => match us, hl with | [_, _], _ => rfl)
end K60

set_option maxHeartbeats 4000000
namespace K60
open PySem PySem.Spec PyProof.Rows L2 J Evl
variable {P : Program} {w : World} {K : PySem.W.Frag} {mg : Str → Option Value} {base : Heap}
theorem fd_law_sr_is_ratio (T : Tx K mg) : Fd CX0 P w K mg base 2 "_law_sr_is_ratio" ["value"] (spD K 1 fun ds d => ∃ r : Rat, ds = [dR r] ∧ Bz 4000 r ∧ d = .bool true) := by
  have W := fd_law_q (P := P) (w := w) (base := base) T
  obtain ⟨fd, F, hm⟩ := T.f_law_sr_is_ratio
  refine fd_mk F hm (ok_D F sc_law_sr_is_ratio rfl fun cdv A outer s H E M vs ds d D' hr hl hR S k _ => ?_) (fun _ _ _ _ _ _ us hl => match us, hl with | [_], _ => rfl)
  obtain ⟨r, rfl, hz, rfl⟩ := hR
  have hu := hr.units
  have nd := sc_law_sr_is_ratio.nd
  refine sy_when (b := !true || (!decide ((([PyData.int r.num, PyData.int (r.den : Int)].length : Nat) : Int) = 2) || !PyData.eqv (.list []) (.list []))) S (jt_or3 (jt_not (jt_val (jd_isi T.n_isinstance T.n_tuple boot_tuple (S.at 0) (kit_tuple _)))) (fun _ => jt_neI (jd_len T.n_len (S.at 0) (.inl rfl)) jd_int) fun _ _ => jt_ne hu (Jn.jd (sy_lc0 (α := D) (g := id) (xs := [.int r.num, .int (r.den : Int)]) S (by rw [List.map_id]; exact jw_tup (S.at 0)) (by show 2 ≤ 90000; omega) (fun d ρ => ρ.set 1 (some (.dat d))) (js := [1]) (own := [("part", 1)]) (by simp) ?_ ?_ (blkOk_by (by rfl)) rfl nd)) (jd_lst ja_nil) rfl rfl) (fun h H1 S1 => ?_) (fun h H1 S1 => ?_)
  · rintro _ d ⟨s, H, C, cl, fp, rfl⟩ _
    exact jg_name 1 nd
  · rintro i d _ B' M' σ' H' h1 ⟨s, H, C, cl, fp, rfl⟩ S'
    have hi : dIsI d = true ∧ dIsB d = false := by
      have := List.mem_of_getElem? h1
      simp only [List.mem_cons, List.not_mem_nil, or_false] at this
      rcases this with rfl | rfl <;> exact ⟨rfl, rfl⟩
    exact Jt.is (jt_or (jt_val (jd_isi T.n_isinstance T.n_bool boot_bool (S'.at 1) (kit_bool _))) fun _ => jt_not (jt_val (jd_isi T.n_isinstance T.n_int boot_int (S'.at 1) (kit_int _)))) (by show (dIsB d || !dIsI d) = false; rw [hi.1, hi.2]; rfl)
  · rw [eqv_nil] at h; cases h
  · refine sy_ret S1 (jd_and (k := true) (Jd.is (jd_gt (jd_ixT (n := 1) (S1.at 0) jd_int rfl rfl) jd_int) (by rw [decide_eq_true (den_pos r)])) (fun q => by cases q) fun _ => Jd.is (jd_eq hu (jd_call W (hr.mono (by decide)) (ja_cons (jd_ixT (n := 0) (S1.at 0) jd_int rfl rfl) (ja_cons (jd_ixT (n := 1) (S1.at 0) jd_int rfl rfl) ja_nil)) rfl ⟨_, _, rfl, den_pos r, Nat.lt_of_lt_of_le hz.2 (Nat.pow_le_pow_right (by decide) (by decide)), rfl⟩) (S1.at 0) (lay_dR.shaped (by decide)) (lay_dR.shaped (by decide))) (by rw [Rat.num_divInt_den, eqv_dR, decide_eq_true rfl])) fun v H' x _ p => k v H' x p
theorem fd_law_sr_is_chance (T : Tx K mg) : Fd CX0 P w K mg base 3 "_law_sr_is_chance" ["value"] (spD K 1 fun ds d => ∃ r : Rat, ds = [dR r] ∧ Bz 4000 r ∧ 0 ≤ r ∧ r ≤ 1 ∧ d = .bool true) := by
  have W := fd_law_sr_is_ratio (P := P) (w := w) (base := base) T
  obtain ⟨fd, F, hm⟩ := T.f_law_sr_is_chance
  refine fd_mk F hm (ok_D F sc_law_sr_is_chance rfl fun cdv A outer s H E M vs ds d D' hr hl hR S k _ => ?_) (fun _ _ _ _ _ _ us hl => match us, hl with | [_], _ => rfl)
  obtain ⟨r, rfl, hz, h0, h1, rfl⟩ := hR
  refine sy_ret S (jd_and (k := true) (jd_call W (hr.mono (by decide)) (ja_cons (S.at 0) ja_nil) rfl ⟨r, rfl, hz, rfl⟩) (fun h => by cases h) fun h => Jd.is (jd_chain op_le op_le jd_int (jd_ixT (n := 0) (S.at 0) jd_int rfl rfl) (jd_ixT (n := 1) (S.at 0) jd_int rfl rfl) (by with_unfolding_all rfl)) ?_) fun v H' x _ p => k v H' x p
  rw [dec_nonneg, decide_eq_true h0, decide_eq_true (le_one.mpr h1)]; rfl
theorem fd_law_sr_gap (T : Tx K mg) : Fd CX0 P w K mg base 5 "_law_sr_gap" ["rates", "pair"] (spD K 2 fun ds r => ∃ (ps : Prs) (a b : List Rat), ds = [psD ps, .tuple [rT a, rT b]] ∧ RsOk ps ∧ (DotOk a (fsts ps) ∧ Bz 4000 (dotR a (fsts ps))) ∧ (DotOk b (snds ps) ∧ Bz 4000 (dotR b (snds ps))) ∧ r = dR (gapR ps a b)) := by
  have W3 := fd_law_sr_dot (P := P) (w := w) (base := base) T
  have W5 := fd_law_minus (P := P) (w := w) (base := base) T
  obtain ⟨fd, F, hm⟩ := T.f_law_sr_gap
  refine fd_mk F hm (ok_D F sc_law_sr_gap rfl fun cdv A outer s H E M vs ds d D' hr hl hR S k _ => ?_) (fun _ _ _ _ _ _ us hl => match us, hl with | [_, _], _ => rfl)
  obtain ⟨ps, a, b, rfl, h, ⟨ha, ha2⟩, ⟨hb, hb2⟩, rfl⟩ := hR
  have nd := sc_law_sr_gap.nd
  have h8 := h.l8
  refine sy_ret S (jd_call W5 (hr.mono (by decide)) (ja_cons (jd_call W3 (hr.mono (by decide)) (ja_cons (jd_ixT (n := 1) (d := rT b) (S.at 1) jd_int rfl rfl) (ja_cons (Jd.is (d' := .list ((snds ps).map dR)) (Jn.jd (sy_lcM (g := pD) S (jw_tup (S.at 0)) (fun p => dR p.2) (by omega) (fun d ρ => match d with | .tuple [x, y] => (ρ.set 2 (some (.dat x))).set 3 (some (.dat y)) | _ => ρ) (js := [2, 3]) (own := [("one", 2), ("other", 3)]) (by simp) ?_ ?_ (blkOk_by (by rfl)) rfl nd)) (by unfold snds; rw [List.map_map]; rfl)) ja_nil)) rfl ⟨false, true, snds ps, b, rfl, hb, rfl⟩)
    (ja_cons (jd_call W3 (hr.mono (by decide)) (ja_cons (jd_ixT (n := 0) (d := rT a) (S.at 1) jd_int rfl rfl) (ja_cons (Jd.is (d' := .list ((fsts ps).map dR)) (Jn.jd (sy_lcM (g := pD) S (jw_tup (S.at 0)) (fun p => dR p.1) (by omega) (fun d ρ => match d with | .tuple [x, y] => (ρ.set 2 (some (.dat x))).set 3 (some (.dat y)) | _ => ρ) (js := [2, 3]) (own := [("one", 2), ("other", 3)]) (by simp) ?_ ?_ (blkOk_by (by rfl)) rfl nd)) (by unfold fsts; rw [List.map_map]; rfl)) ja_nil)) rfl ⟨false, true, fsts ps, a, rfl, ha, rfl⟩) ja_nil)) rfl ⟨_, _, rfl, hb2, ha2, rfl⟩) fun v H' x _ p => k v H' x p
  · rintro _ d ⟨s, H, C, cl, fp, rfl⟩ _
    exact jg_tup rfl (jgs_cons (jg_name 2 nd) (jgs_cons (jg_name 3 nd) jgs_nil))
  · rintro i x _ B' M' σ' H' hx ⟨s, H, C, cl, fp, rfl⟩ S'
    exact S'.at 3
  · rintro _ d ⟨s, H, C, cl, fp, rfl⟩ _
    exact jg_tup rfl (jgs_cons (jg_name 2 nd) (jgs_cons (jg_name 3 nd) jgs_nil))
  · rintro i x _ B' M' σ' H' hx ⟨s, H, C, cl, fp, rfl⟩ S'
    exact S'.at 2
theorem fd_law_sr_are_shares (T : Tx K mg) : Fd CX0 P w K mg base 4 "_law_sr_are_shares" ["value", "many"] (spD K 2 fun ds r => ∃ (n : Nat) (l : List Rat), ds = [rT l, .int n] ∧ ShL n l ∧ n ≤ 8 ∧ SumOk l ∧ r = .bool true) := by
  have W1 := fd_law_sr_is_chance (P := P) (w := w) (base := base) T
  have W2 := fd_law_sum (P := P) (w := w) (base := base) T
  obtain ⟨fd, F, hm⟩ := T.f_law_sr_are_shares
  refine fd_mk F hm (ok_D F sc_law_sr_are_shares rfl fun cdv A outer s H E M vs ds d D' hr hl hR S k _ => ?_) (fun _ _ _ _ _ _ us hl => match us, hl with | [_, _], _ => rfl)
  obtain ⟨n, l, rfl, h, h8, hs, rfl⟩ := hR
  have hu := hr.units
  have nd := sc_law_sr_are_shares.nd
  have ln := h.1
  refine sy_when (b := !true || (!decide ((((l.map dR).length : Nat) : Int) = (n : Int)) || !PyData.eqv (.list []) (.list []))) S (jt_or3 (jt_not (jt_val (jd_isi T.n_isinstance T.n_tuple boot_tuple (S.at 0) (kit_tuple _)))) (fun _ => jt_neI (jd_len T.n_len (S.at 0) (.inl rfl)) (S.at 1)) fun _ _ => jt_ne hu (Jn.jd (sy_lc0 (g := dR) (xs := l) S (jw_tup (S.at 0)) (by omega) (fun d ρ => ρ.set 2 (some (.dat d))) (js := [2]) (own := [("part", 2)]) (by simp) ?_ ?_ (blkOk_by (by rfl)) rfl nd)) (jd_lst ja_nil) rfl rfl) (fun q H1 S1 => ?_) (fun q H1 S1 => ?_)
  · rintro _ d ⟨s, H, C, cl, fp, rfl⟩ _
    exact jg_name 2 nd
  · rintro i r _ B' M' σ' H' h1 ⟨s, H, C, cl, fp, rfl⟩ S'
    have m := List.mem_of_getElem? h1
    refine Jt.is (k := !true) (jt_not (jt_val (jd_call W1 (hr.mono (by decide)) (ja_cons (S'.at 2) ja_nil) rfl ⟨r, rfl, hs.1 r m, h.2.1 r m, h.le m, rfl⟩))) rfl
  · rw [eqv_nil, List.length_map, decide_eq_true (by omega)] at q; cases q
  · refine sy_ret S1 (Jd.is (jd_eq hu (jd_call W2 (hr.mono (by decide)) (ja_cons (S1.at 0) ja_nil) rfl ⟨true, l, rfl, hs, rfl⟩) (Jd.is (d' := dR 1) (jd_tup (ja_cons jd_int (ja_cons jd_int ja_nil))) rfl) (lay_dR.shaped (by decide)) (lay_dR.shaped (by decide))) (by rw [eqv_dR, decide_eq_true h.2.2])) fun v H' x _ p => k v H' x p
theorem fd_law_sr_apart (T : Tx K mg) : Fd CX0 P w K mg base 3 "_law_sr_apart" ["one", "other"] (spD K 2 fun ds r => ∃ a b : List Rat, ds = [rT a, rT b] ∧ SumOk a ∧ SumOk b ∧ SumOk (absd a b) ∧ r = dR (apartR a b)) := by
  have W1 := fd_law_minus (P := P) (w := w) (base := base) T
  have W2 := fd_law_plus (P := P) (w := w) (base := base) T
  have W3 := fd_law_times (P := P) (w := w) (base := base) T
  obtain ⟨fd, F, hm⟩ := T.f_law_sr_apart
  refine fd_mk F hm (ok_D F sc_law_sr_apart rfl fun cdv A outer s H E M vs ds d D' hr hl hR S k _ => ?_) (fun _ _ _ _ _ _ us hl => match us, hl with | [_, _], _ => rfl)
  obtain ⟨a, b, rfl, ha, hb, hs, rfl⟩ := hR
  have nd := sc_law_sr_apart.nd
  refine sy_set 2 S (d := dR 0) (Jd.is (jd_tup (ja_cons jd_int (ja_cons jd_int ja_nil))) rfl) (fun σ1 H1 S1 => ?_) nd
  refine sy_for (ds := zipD (a.map dR) (b.map dR)) S1 (jw_zipB (b1 := true) (b2 := true) T.n_zip (S1.at 0) (S1.at 1)) (fun d ρ => match d with | .tuple [x, y] => (ρ.set 3 (some (.dat x))).set 4 (some (.dat y)) | _ => ρ) (js := [3, 4]) (fun d ρ' hd => ?_)
    (fun i ρ' μ' => μ' = [] ∧ ∃ o3 o4 o5, ρ' = [some (.dat (rT a)), some (.dat (rT b)), some (.dat (dR ((absd a b).take i).sum)), o3, o4, o5]) ⟨rfl, _, _, _, rfl⟩ ?_ ?_ PassesOwn.never rfl
  · rw [zipD_map] at hd
    obtain ⟨x, _, rfl⟩ := List.mem_map.mp hd
    exact jg_tup rfl (jgs_cons (jg_name 3 nd) (jgs_cons (jg_name 4 nd) jgs_nil))
  · rintro i d ρ' μ' σ' H' B' hd ⟨rfl, o3, o4, o5, rfl⟩ hB S2
    rw [zipD_map, List.getElem?_map] at hd
    obtain ⟨⟨x, y⟩, hq, rfl⟩ := Option.map_eq_some_iff.mp hd
    have m := List.mem_of_getElem? hq
    have hx := ha.1 x (List.of_mem_zip m).1
    have hy := hb.1 y (List.of_mem_zip m).2
    have he : (absd a b)[i]? = some (x - y).abs := by unfold absd; rw [List.getElem?_map, hq]; rfl
    have hz := hs.1 _ (List.mem_of_getElem? he)
    refine sy_set 5 S2 (d := dR (x - y)) (jd_call W1 (hr.mono (by decide)) (ja_cons (S2.at 3) (ja_cons (S2.at 4) ja_nil)) rfl ⟨x, y, rfl, hx, hy, rfl⟩) (fun σ3 H3 S3 => ?_) nd
    refine sy_set 2 S3 (d := dR (((absd a b).take i).sum + (x - y).abs)) (jd_call W2 (hr.mono (by decide)) (ja_cons (S3.at 2) (ja_cons (Jd.is (d' := dR (x - y).abs) (jd_tup (ja_cons (jd_abs T.n_abs (jd_ixT (n := 0) (S3.at 5) jd_int rfl rfl)) (ja_cons (jd_ixT (n := 1) (S3.at 5) jd_int rfl rfl) ja_nil))) (abs_dR _)) ja_nil)) rfl ⟨_, _, rfl, hs.2 i, hz, rfl⟩) (fun σ4 H4 S4 => tB_nil ?_) nd
    exact ⟨_, _, ⟨rfl, _, _, _, by rw [rsum_take he]; rfl⟩, S4⟩
  · rintro ρ' μ' σ' H' ⟨rfl, o3, o4, o5, rfl⟩ S2
    have e : (absd a b).take (zipD (a.map dR) (b.map dR)).length = absd a b := by
      rw [zipD_len, List.length_map, List.length_map, List.take_of_length_le]
      unfold absd; rw [List.length_map, List.length_zip]; omega
    rw [e] at S2
    have hsum : Bz 4000 (absd a b).sum := by have := hs.2 (absd a b).length; rwa [List.take_length] at this
    exact sy_ret S2 (jd_call W3 (hr.mono (by decide)) (ja_cons (Jd.is (d' := dR (1 / 2)) (jd_tup (ja_cons jd_int (ja_cons jd_int ja_nil))) half_dR.symm) (ja_cons (S2.at 2) ja_nil)) rfl ⟨_, _, rfl, bz_half.mono (by decide), hsum, rfl⟩) fun v H' x _ p => k v H' x p
theorem fd_law_sr_reverses (T : Tx K mg) : Fd CX0 P w K mg base 6 "_law_sr_reverses" ["rates", "value"] (spD K 2 fun ds r => ∃ (ps : Prs) (s : Rat), ds = [psD ps, .tuple [rT (tOne ps s), rT (tTwo ps s)]] ∧ RsOk ps ∧ SlOk s ∧ 0 < wgap ps s ∧ r = .bool true) := by
  have W1 := fd_law_sr_are_shares (P := P) (w := w) (base := base) T
  have W2 := fd_law_sr_gap (P := P) (w := w) (base := base) T
  have W3 := fd_law_less (P := P) (w := w) (base := base) T
  obtain ⟨fd, F, hm⟩ := T.f_law_sr_reverses
  refine fd_mk F hm (ok_D F sc_law_sr_reverses rfl fun cdv A outer st H E M vs ds d D' hr hl hR S k _ => ?_) (fun _ _ _ _ _ _ us hl => match us, hl with | [_, _], _ => rfl)
  obtain ⟨ps, s, rfl, h, hs, hg, rfl⟩ := hR
  have hu := hr.units
  have nd := sc_law_sr_reverses.nd
  have h8 := h.l8
  obtain ⟨s1, s2, p1, p2, gp, _⟩ := told_facts h hs.lo hs.hi hg
  obtain ⟨k1, k2, k3, k4, k5, k6, k7, k8, _⟩ := told_ok h hs hg
  refine sy_when (b := !true || !decide ((([rT (tOne ps s), rT (tTwo ps s)].length : Nat) : Int) = 2)) S (jt_or (jt_not (jt_val (jd_isi T.n_isinstance T.n_tuple boot_tuple (S.at 1) (kit_tuple _)))) (fun _ => jt_neI (jd_len T.n_len (S.at 1) (.inl rfl)) jd_int)) (fun q H1 S1 => by cases q) fun q H1 S1 => ?_
  refine sy_for (ds := [rT (tOne ps s), rT (tTwo ps s)]) S1 (jw_tup (S1.at 1)) (fun d ρ => ρ.set 2 (some (.dat d))) (js := [2]) (fun d ρ' hd => jg_name 2 nd)
    (fun i ρ' μ' => μ' = [] ∧ ∃ o2 o3, ρ' = [some (.dat (psD ps)), some (.dat (.tuple [rT (tOne ps s), rT (tTwo ps s)])), o2, o3]) ⟨rfl, _, _, rfl⟩ ?_ ?_ PassesOwn.never rfl
  · rintro i d ρ' μ' σ' H' B' hd ⟨rfl, o2, o3, rfl⟩ hB S2
    obtain ⟨l, rfl, hl, hp, ho⟩ : ∃ l, d = rT l ∧ ShL ps.length l ∧ (∀ x ∈ l, 0 < x) ∧ SumOk l := by
      have m := List.mem_of_getElem? hd
      simp only [List.mem_cons, List.not_mem_nil, or_false] at m
      rcases m with rfl | rfl
      · exact ⟨_, rfl, s1, p1, k1⟩
      · exact ⟨_, rfl, s2, p2, k2⟩
    have ll := hl.1
    refine sy_when (b := !true || !PyData.eqv (.list []) (.list [])) S2 (jt_or (jt_not (jt_val (jd_call W1 (hr.mono (by decide)) (ja_cons (S2.at 2) (ja_cons (jd_len T.n_len (S2.at 0) (.inl rfl)) ja_nil)) rfl ⟨ps.length, l, by rw [List.length_map], hl, h8, ho, rfl⟩))) fun _ => jt_ne hu (Jn.jd (sy_lc0 (g := dR) (xs := l) S2 (jw_tup (S2.at 2)) (by omega) (fun d ρ => ρ.set 3 (some (.dat d))) (js := [3]) (own := [("share", 3)]) (by simp) ?_ ?_ (blkOk_by (by rfl)) rfl nd)) (jd_lst ja_nil) rfl rfl) (fun q H3 S3 => ?_) fun q H3 S3 => tB_nil ⟨_, _, ⟨rfl, _, _, rfl⟩, S3⟩
    · rintro _ d ⟨s, H, C, cl, fp, rfl⟩ _
      exact jg_name 3 nd
    · rintro i r _ B' M' σ' H' h1 ⟨s, H, C, cl, fp, rfl⟩ S'
      have m := hp r (List.mem_of_getElem? h1)
      refine Jt.is (jt_eqI (jd_ixT (n := 0) (S'.at 3) jd_int rfl rfl) jd_int) (decide_eq_false fun z => ?_)
      have := num_pos.mpr m
      omega
    · rw [eqv_nil] at q; cases q
  · rintro ρ' μ' σ' H' ⟨rfl, o2, o3, rfl⟩ S2
    exact sy_ret S2 (Jd.is (jd_call W3 (hr.mono (by decide)) (ja_cons (Jd.is (d' := dR 0) (jd_tup (ja_cons jd_int (ja_cons jd_int ja_nil))) rfl) (ja_cons (jd_call W2 (hr.mono (by decide)) (ja_cons (S2.at 0) (ja_cons (S2.at 1) ja_nil)) rfl ⟨ps, _, _, rfl, h, ⟨k4, k6⟩, ⟨k5, k7⟩, rfl⟩) ja_nil)) rfl ⟨0, _, rfl, bz_zero.mono (by decide), k8, rfl⟩) (by rw [decide_eq_true gp])) fun v H' x _ p => k v H' x p
end K60

set_option maxHeartbeats 4000000
namespace K60
open PySem PySem.Spec PyProof.Rows L2 J Evl
variable {P : Program} {w : World} {K : PySem.W.Frag} {mg : Str → Option Value} {base : Heap}
section
variable {X : Cx} {B H : Hp} {M0 : List Addr} {ρ : Ro} {μD μ2 : Mu} {σ : L2.St} {ts : List Sv} {vs : List V} {a l : Addr} {n : Nat} {e1 e2 : Expr} {p pos : Pos} {room : Int} {xs : List D}
theorem sx_draw (S : Sx X.K B M0 ρ (μD ++ μ2) σ ts vs H) (W : Fd CX0 X.prog X.w X.K X.mg X.base 2 "_law_draw" ["state", "room"] (spM X.K 2 PreD RD noF)) (hr : Room 2 X.A) (hD : Drs a l n μD) (hn : n < 2 ^ 30) (ha : Js X (adr M0 (μD ++ μ2)) e1 σ H (.val (.ref a))) (hb : Js X (adr M0 (μD ++ μ2)) e2 σ H (.dat (.int room))) (h0 : 0 < room) (h1 : room < 2 ^ 64) {Q : VK}
    (k : ∀ v z μ' H', 0 ≤ z → z < room → Stp 1 μD μ' → Sx X.K B M0 ρ (μ' ++ μ2) σ (ts ++ [.dat (.int z)]) (vs ++ [v]) H' → Q v H') (hg : Gl X "_law_draw" := by rfl) (he : starEach [e1, e2] X.env = (false, eval e1 X.env) :: starEach [e2] X.env := by rfl) (he2 : starEach [e2] X.env = (false, eval e2 X.env) :: starEach [] X.env := by rfl) (hpl : (backTo pos (starEach [e2] X.env)).any (·.1) = false := by rfl) :
    tW X (.Call (.Name "_law_draw" p) [e1, e2] [] pos) σ H Q :=
  Sx.call S W hr (jsa_cons ha (jsa_cons hb jsa_nil he2) he) rfl (preD hD h0 h1 hn) (fun v s μ' H' hR S' => by
    obtain ⟨z, rfl, z0, z1, st⟩ := sD hR
    exact k v z μ' H' z0 z1 st S') hg (by decide) he hpl
theorem sx_pick (S : Sx X.K B M0 ρ (μD ++ μ2) σ ts vs H) (W : Fd CX0 X.prog X.w X.K X.mg X.base 3 "_law_pick" ["state", "some"] (spM X.K 2 PreP RP noF)) (hr : Room 3 X.A) (hD : Drs a l n μD) (hn : n < 2 ^ 30) (ha : Js X (adr M0 (μD ++ μ2)) e1 σ H (.val (.ref a))) (hb : Js X (adr M0 (μD ++ μ2)) e2 σ H (.dat (.list xs))) (h0 : 0 < xs.length) (h1 : xs.length ≤ 1000) {Q : VK}
    (k : ∀ v x μ' H', x ∈ xs → Stp 1 μD μ' → Sx X.K B M0 ρ (μ' ++ μ2) σ (ts ++ [.dat x]) (vs ++ [v]) H' → Q v H') (hg : Gl X "_law_pick" := by rfl) (he : starEach [e1, e2] X.env = (false, eval e1 X.env) :: starEach [e2] X.env := by rfl) (he2 : starEach [e2] X.env = (false, eval e2 X.env) :: starEach [] X.env := by rfl) (hpl : (backTo pos (starEach [e2] X.env)).any (·.1) = false := by rfl) :
    tW X (.Call (.Name "_law_pick" p) [e1, e2] [] pos) σ H Q :=
  Sx.call S W hr (jsa_cons ha (jsa_cons hb jsa_nil he2) he) rfl ⟨a, l, n, xs, rfl, h0, h1, hn, hD⟩ (fun v s μ' H' hR S' => by
    obtain ⟨x, rfl, hx, st⟩ := sP hR
    exact k v x μ' H' hx st S') hg (by decide) he hpl
theorem sx_draw0 (S : Sx X.K B M0 ρ μD σ ts vs H) (W : Fd CX0 X.prog X.w X.K X.mg X.base 2 "_law_draw" ["state", "room"] (spM X.K 2 PreD RD noF)) (hr : Room 2 X.A) (hD : Drs a l n μD) (hn : n < 2 ^ 30) (ha : Js X (adr M0 μD) e1 σ H (.val (.ref a))) (hb : Js X (adr M0 μD) e2 σ H (.dat (.int room))) (h0 : 0 < room) (h1 : room < 2 ^ 64) {Q : VK}
    (k : ∀ v z μ' H', 0 ≤ z → z < room → Stp 1 μD μ' → Sx X.K B M0 ρ μ' σ (ts ++ [.dat (.int z)]) (vs ++ [v]) H' → Q v H') (hg : Gl X "_law_draw" := by rfl) (he : starEach [e1, e2] X.env = (false, eval e1 X.env) :: starEach [e2] X.env := by rfl) (he2 : starEach [e2] X.env = (false, eval e2 X.env) :: starEach [] X.env := by rfl) (hpl : (backTo pos (starEach [e2] X.env)).any (·.1) = false := by rfl) :
    tW X (.Call (.Name "_law_draw" p) [e1, e2] [] pos) σ H Q :=
  sx_draw (μD := μD) (μ2 := []) (by rw [List.append_nil]; exact S) W hr hD hn (by rw [List.append_nil]; exact ha) (by rw [List.append_nil]; exact hb) h0 h1 (fun v z μ' H' a b c S' => k v z μ' H' a b c (by rw [List.append_nil] at S'; exact S')) hg he he2 hpl
theorem sx_pick0 (S : Sx X.K B M0 ρ μD σ ts vs H) (W : Fd CX0 X.prog X.w X.K X.mg X.base 3 "_law_pick" ["state", "some"] (spM X.K 2 PreP RP noF)) (hr : Room 3 X.A) (hD : Drs a l n μD) (hn : n < 2 ^ 30) (ha : Js X (adr M0 μD) e1 σ H (.val (.ref a))) (hb : Js X (adr M0 μD) e2 σ H (.dat (.list xs))) (h0 : 0 < xs.length) (h1 : xs.length ≤ 1000) {Q : VK}
    (k : ∀ v x μ' H', x ∈ xs → Stp 1 μD μ' → Sx X.K B M0 ρ μ' σ (ts ++ [.dat x]) (vs ++ [v]) H' → Q v H') (hg : Gl X "_law_pick" := by rfl) (he : starEach [e1, e2] X.env = (false, eval e1 X.env) :: starEach [e2] X.env := by rfl) (he2 : starEach [e2] X.env = (false, eval e2 X.env) :: starEach [] X.env := by rfl) (hpl : (backTo pos (starEach [e2] X.env)).any (·.1) = false := by rfl) :
    tW X (.Call (.Name "_law_pick" p) [e1, e2] [] pos) σ H Q :=
  sx_pick (μD := μD) (μ2 := []) (by rw [List.append_nil]; exact S) W hr hD hn (by rw [List.append_nil]; exact ha) (by rw [List.append_nil]; exact hb) h0 h1 (fun v z μ' H' a c S' => k v z μ' H' a c (by rw [List.append_nil] at S'; exact S')) hg he he2 hpl
end
/-! ### weights, shares -/
def WtOk (m : Nat) (ws : List Int) : Prop := ws.length = m ∧ (∀ x ∈ ws, 0 ≤ x ∧ x ≤ 8) ∧ 0 < ws.sum
theorem int_sum_nn : ∀ {ws : List Int}, (∀ x ∈ ws, 0 ≤ x ∧ x ≤ 8) → 0 ≤ ws.sum ∧ ws.sum ≤ 8 * ws.length
  | [], _ => by simp
  | x :: ws, h => by
    have a := int_sum_nn (ws := ws) fun y hy => h y (List.mem_cons_of_mem _ hy)
    have b := h x List.mem_cons_self
    rw [List.sum_cons, List.length_cons]; omega
def PreWt : List Sv → Mu → Prop := fun ss μ => ∃ (a l : Addr) (n m : Nat), ss = [.val (.ref a), .dat (.int m), .dat (.int 9)] ∧ 1 ≤ m ∧ m ≤ 8 ∧ n < 2 ^ 29 ∧ Drs a l n μ
def RWt : List Sv → Mu → Sv → Mu → Prop := fun ss μ s μ' => ∃ (a : Addr) (m : Nat) (ws : List Int), ss = [.val (.ref a), .dat (.int m), .dat (.int 9)] ∧ WtOk m ws ∧ s = .dat (.list (ws.map PyData.int)) ∧ Stp 24 μ μ'
theorem fd_law_weights (T : Tx K mg) : Fd CX0 P w K mg base 4 "_law_weights" ["draws", "many", "top"] (spM K 3 PreWt RWt noF) := by
  have Wd := fd_law_draw (P := P) (w := w) (base := base) T
  have Wp := fd_law_pick (P := P) (w := w) (base := base) T
  obtain ⟨fd, F, hm⟩ := T.f_law_weights
  refine fd_mk F hm (ok_M F sc_law_weights rfl fun cdv A outer s H E B M0 vs ss μ D' hr hl hP S k kn => ?_) (fun _ _ _ _ _ _ us hl => match us, hl with | [_, _, _], _ => rfl)
  obtain ⟨a, l, n, m, rfl, m1, m8, hn, hD⟩ := hP
  have nd := sc_law_weights.nd
  refine tB_setLc 3 (lcE_tree S (jw_rng1 (n := (m : Int)) T.n_range (S.at 1) (by omega)) (fun d ρ => ρ.set 4 (some (.dat d))) (js := [4]) (own := [("lap", 4)]) (by simp)
    (fun i acc μ' => ∃ ws : List Int, acc = ws.map PyData.int ∧ ws.length = i ∧ i ≤ 8 ∧ (∀ x ∈ ws, 0 ≤ x ∧ x ≤ 8) ∧ Stp (3 * i) μ μ') ⟨[], rfl, rfl, by decide, by simp, Stp.zero⟩ ?_ ?_ ?_ ?_) (blkOk_by (by rfl)) rfl nd
  · rintro i acc μ' ⟨ws, rfl, h2, h3, _⟩
    simp; omega
  · rintro _ d ⟨s, H, C, cl, fp, rfl⟩ _
    exact jg_name 4 nd
  · rintro i d acc μ' _ B' M' σ' H' Q hd ⟨ws, rfl, h2, h3, h4, h5⟩ ⟨s, H, C, cl, fp, rfl⟩ S1 hQ
    have hi : i < m := by have := (rgD_get hd).1; omega
    have hD1 := h5 _ _ _ hD
    have S1 := S1.sx
    refine jm_callE Wp (hr.mono (by decide)) (tA_cons (S1.ev (S1.base.atV 0).js fun v0 H2 S2 => tA_cons (tW_lst (n := 0) (tA_cons (S2.ev jd_int.js fun v1 H3 S3 => tA_cons (S3.ev jd_int.js fun v2 H4 S4 => tA_cons (S4.ev jd_int.js fun v3 H5 S5 => tA_cons (S5.ev jd_int.js fun v4 H6 S6 => tA_cons (S6.ev jd_int.js fun v5 H7 S7 => tA_cons ?_)))))))))
    refine sx_draw0 S7 Wd (hr.mono (by decide)) hD1 (by omega) (S7.base.atV 0).js (S7.base.at 2).js (by decide) (by decide) fun v6 z6 μ6 H8 z60 z61 st6 S8 => tA_cons ?_
    refine sx_draw0 S8 Wd (hr.mono (by decide)) (st6 _ _ _ hD1) (by omega) (S8.base.atV 0).js (S8.base.at 2).js (by decide) (by decide) fun v7 z7 μ7 H9 z70 z71 st7 S9 => tA_nil ⟨by simp, fun c hc => tA_nil ?_⟩
    let xs : List D := [.int 0, .int 1, .int 1, .int 2, .int 3, .int z6, .int z7]
    have S10 := Sx.mkLst (ts := [.val (.ref a)]) (us := xs.map .dat) (vs := [v0]) (ws := [v1, v2, v3, v4, v5, v6, v7]) (ds := xs) S9 rfl rfl hc
    have hD7 := st7 _ _ _ (st6 _ _ _ hD1)
    refine callM1 S10.base (ss := [.val (.ref a), .dat (.list xs)]) S10.vals rfl ⟨a, l, _, xs, rfl, by simp [xs], by simp [xs], by omega, hD7⟩ fun v8 s8 μ8 H10 hR8 S11 hv8 => ?_
    obtain ⟨x, rfl, hx, st8⟩ := sP hR8
    obtain ⟨y, rfl, y0, y8⟩ : ∃ y : Int, x = .int y ∧ 0 ≤ y ∧ y ≤ 8 := by
      simp only [xs, List.mem_cons, List.not_mem_nil, or_false] at hx
      rcases hx with rfl | rfl | rfl | rfl | rfl | rfl | rfl <;> exact ⟨_, rfl, by omega, by omega⟩
    refine hQ v8 (.int y) μ8 H10 ⟨ws ++ [y], by simp, by simp; omega, by omega, ?_, ?_⟩ S11 hv8
    · intro e he
      rcases List.mem_append.mp he with he | he
      · exact h4 e he
      · rw [List.mem_singleton.mp he]; omega
    · exact (((h5.trans st6).trans st7).trans st8).le (by omega)
  · rintro a0 acc μ' H4 ⟨ws, rfl, h2, h3, h4, h5⟩ S4
    rw [rgD_len] at h2 h3 h5
    have S5 := (S4.set 3 (s := .val (.ref a0)) (v := .ref a0) rfl).frz 3 0 rfl rfl
    have S5 : Sy K B M0 [some (.val (.ref a)), some (.dat (.int m)), some (.dat (.int 9)), some (.dat (.list (ws.map PyData.int))), none] μ' _ H4 := S5
    obtain ⟨s1, s2⟩ := int_sum_nn h4
    by_cases h0 : 0 < ws.sum
    · refine sy_retE (S5.ev (d := .list (ws.map PyData.int)) (jd_if (jt_gt (jd_sum rfl T.n_sum (S5.at 3)) jd_int) (fun _ => S5.at 3) fun q => ?_) fun v H6 S6 _ pv => k v (.dat (.list (ws.map PyData.int))) μ' H6 ⟨a, m, ws, rfl, ⟨by omega, h4, h0⟩, rfl, h5.le (by omega)⟩ (S6.one pv))
      rw [decide_eq_true h0] at q; cases q
    · have hne : 1 ≤ ws.length := by omega
      refine sy_retE (S5.ev (d := .list (((1 : Int) :: ws.drop 1).map PyData.int)) (jd_if (jt_gt (jd_sum rfl T.n_sum (S5.at 3)) jd_int) (fun q => ?_) fun q => Jd.is (Jn.jd (jn_cat (jn_lst (ja_cons jd_int ja_nil)) (jn_slLFrom (n := 1) (S5.at 3) jd_int rfl (by rw [List.length_map]; exact hne)) (by simp; omega))) (by simp)) fun v H6 S6 _ pv => k v (.dat (.list (((1 : Int) :: ws.drop 1).map PyData.int))) μ' H6 ⟨a, m, 1 :: ws.drop 1, rfl, ⟨by simp; omega, fun x hx => ?_, ?_⟩, rfl, h5.le (by omega)⟩ (S6.one pv))
      · rw [decide_eq_false h0] at q; cases q
      · rcases List.mem_cons.mp hx with e | e
        · subst e; omega
        · exact h4 x (List.mem_of_mem_drop e)
      · have := (int_sum_nn (ws := ws.drop 1) fun x hx => h4 x (List.mem_of_mem_drop hx)).1
        rw [List.sum_cons]; omega
theorem sum_divs {S : Int} (h : 0 < S) : ∀ ws : List Int, (ws.map fun x => Rat.divInt x S).sum * (S : Rat) = (ws.sum : Rat)
  | [] => by simp
  | x :: ws => by
    have ih := sum_divs h ws
    have p : (0 : Rat) < (S : Rat) := Rat.intCast_pos.mpr h
    have ne : (S : Rat) ≠ 0 := by grind
    have e : Rat.divInt x S * (S : Rat) = (x : Rat) := by rw [Rat.divInt_eq_div]; grind
    rw [List.map_cons, List.sum_cons, List.sum_cons, Rat.intCast_add, Rat.add_mul, ih, e]
def wSh (ws : List Int) : List Rat := ws.map fun x => Rat.divInt x ws.sum
theorem wSh_ok {m : Nat} {ws : List Int} (h : WtOk m ws) (h8 : m ≤ 8) : ShL m (wSh ws) ∧ ∀ x ∈ wSh ws, Bz 7 x := by
  obtain ⟨h1, h2, h3⟩ := h
  obtain ⟨s1, s2⟩ := int_sum_nn h2
  have p : (0 : Rat) < (ws.sum : Rat) := Rat.intCast_pos.mpr h3
  refine ⟨⟨by unfold wSh; rw [List.length_map, h1], fun x hx => ?_, ?_⟩, fun x hx => ?_⟩
  · obtain ⟨y, hy, rfl⟩ := List.mem_map.mp hx
    exact Rat.divInt_nonneg (h2 y hy).1 (by omega)
  · have e := sum_divs h3 ws
    unfold wSh
    have ne : (ws.sum : Rat) ≠ 0 := by grind
    generalize (List.map (fun x => Rat.divInt x ws.sum) ws).sum = t at *
    generalize ((ws.sum : Int) : Rat) = q at *
    grind
  · obtain ⟨y, hy, rfl⟩ := List.mem_map.mp hx
    have := h2 y hy
    exact bz_of h3 (by decide) (by omega) (by omega)
def PreSh : List Sv → Mu → Prop := fun ss μ => ∃ (a l : Addr) (n m : Nat), ss = [.val (.ref a), .dat (.int m)] ∧ 1 ≤ m ∧ m ≤ 8 ∧ n < 2 ^ 29 ∧ Drs a l n μ
def RSh : List Sv → Mu → Sv → Mu → Prop := fun ss μ s μ' => ∃ (a : Addr) (m : Nat) (ls : List Rat), ss = [.val (.ref a), .dat (.int m)] ∧ ShL m ls ∧ (∀ x ∈ ls, Bz 7 x) ∧ s = .dat (rT ls) ∧ Stp 24 μ μ'
theorem fd_law_shares (T : Tx K mg) : Fd CX0 P w K mg base 5 "_law_shares" ["draws", "many"] (spM K 2 PreSh RSh noF) := by
  have W1 := fd_law_weights (P := P) (w := w) (base := base) T
  have W3 := fd_law_q (P := P) (w := w) (base := base) T
  obtain ⟨fd, F, hm⟩ := T.f_law_shares
  refine fd_mk F hm (ok_M F sc_law_shares rfl fun cdv A outer s H E B M0 vs ss μ D' hr hl hP S k kn => ?_) (fun _ _ _ _ _ _ us hl => match us, hl with | [_, _], _ => rfl)
  obtain ⟨a, l, n, m, rfl, m1, m8, hn, hD⟩ := hP
  have nd := sc_law_shares.nd
  refine sy_setE 2 (jm_call1 S W1 (hr.mono (by decide)) (jsa_cons (S.atV 0).js (jsa_cons (S.at 1).js (jsa_cons jd_int.js jsa_nil))) rfl ⟨a, l, n, m, rfl, m1, m8, hn, hD⟩ fun v s' μ1 H1 hR S1 hv => ?_) nd
  obtain ⟨_, m', ws, e1, hw, rfl, st⟩ := hR
  simp only [List.cons.injEq, Sv.dat.injEq, PyData.int.injEq, and_true] at e1
  have em : m' = m := by omega
  subst em
  have S2 := S1.set 2 (s := .dat (.list (ws.map PyData.int))) (v := v) hv
  have S2 : Sy K B M0 [some (.val (.ref a)), some (.dat (.int m')), some (.dat (.list (ws.map PyData.int))), none] μ1 _ H1 := S2
  obtain ⟨k1, k2⟩ := wSh_ok hw m8
  obtain ⟨h1, h2, h3⟩ := hw
  obtain ⟨s1, s2⟩ := int_sum_nn h2
  refine sy_retE (S2.ev (d := rT (wSh ws)) (Jd.is (jd_tupOf T.n_tuple (Jn.jd (sy_lcM (xs := ws) (g := PyData.int) S2 (jw_lst (S2.at 2)) (fun x => dR (Rat.divInt x ws.sum)) (by omega) (fun d ρ => ρ.set 3 (some (.dat d))) (js := [3]) (own := [("each", 3)]) (by simp) ?_ ?_ (blkOk_by (by rfl)) rfl nd))) (by unfold wSh rT; rw [List.map_map]; rfl)) fun v H6 S6 _ pv => k v (.dat (rT (wSh ws))) μ1 H6 ⟨a, m', wSh ws, rfl, k1, k2, rfl, st⟩ (S6.one pv))
  · rintro _ d ⟨s, H, C, cl, fp, rfl⟩ _
    exact jg_name 3 nd
  · rintro i x _ B' M' σ' H' hx ⟨s, H, C, cl, fp, rfl⟩ S'
    exact jd_call W3 (hr.mono (by decide)) (ja_cons (S'.at 3) (ja_cons (jd_sum rfl T.n_sum (S'.at 2)) ja_nil)) rfl ⟨_, _, rfl, h3, Nat.lt_of_le_of_lt (by omega : ws.sum.natAbs ≤ 64) (Nat.lt_of_lt_of_le (by decide : 64 < 2 ^ 7) (Nat.pow_le_pow_right (by decide) (by decide))), rfl⟩
end K60

set_option maxHeartbeats 4000000
namespace K60
open PySem PySem.Spec PyProof.Rows L2 J Evl
variable {P : Program} {w : World} {K : PySem.W.Frag} {mg : Str → Option Value} {base : Heap}
theorem sx_spd {K : PySem.W.Frag} {B H : Hp} {M0 : List Addr} {ρ : Ro} {μ : Mu} {σ : L2.St} {ts : List Sv} {vs ws : List V} {ds : List D} {d : D} {n : Nat} {R : List D → D → Prop} {Q : VK} {E : XK} (S : Sx K B M0 ρ μ σ (ts ++ ds.map .dat) (vs ++ ws) H) (hl : ts.length = vs.length) (hn : ds.length = n) (hR : R ds d)
    (k : ∀ v H', Sx K B M0 ρ μ σ (ts ++ [.dat d]) (vs ++ [v]) H' → Q v H') : spD K n R ws H Q E :=
  ⟨adr M0 μ, ds, d, hn, S.1.all, dats_of (S.right hl), hR, fun v H2 x p => k v H2 (((S.take hl).ex x).push p)⟩
def PreC1 : List Sv → Mu → Prop := fun ss μ => ∃ (a l : Addr) (n : Nat), ss = [.val (.ref a)] ∧ n < 2 ^ 29 ∧ Drs a l n μ
theorem fd_law_chance (T : Tx K mg) : Fd CX0 P w K mg base 4 "_law_chance" ["draws"] (spM K 1 PreC1 (fun _ μ s μ' => ∃ r : Rat, 0 ≤ r ∧ r ≤ 1 ∧ Bz 60 r ∧ s = .dat (dR r) ∧ Stp 4 μ μ') noF) := by
  have Wd := fd_law_draw (P := P) (w := w) (base := base) T
  have Wp := fd_law_pick (P := P) (w := w) (base := base) T
  have Wq := fd_law_q (P := P) (w := w) (base := base) T
  obtain ⟨fd, F, hm⟩ := T.f_law_chance
  refine fd_mk F hm (ok_M F sc_law_chance rfl fun cdv A outer s H E B M0 vs ss μ D' hr hl hP S k kn => ?_) (fun _ _ _ _ _ _ us hl => match us, hl with | [_], _ => rfl)
  obtain ⟨a, l, n, rfl, hn, hD⟩ := hP
  have nd := sc_law_chance.nd
  refine sy_setE 1 (leW (pe_op op_add pe_W pe_W) (S.ev jd_int fun v0 H1 S1 x1 p0 => jm_callE Wd (hr.mono (by decide)) (tA_cons (S1.sx.ev (S1.atV 0).js fun v1 H2 S2 => tA_cons (sx_pick0 (xs := [.int 1, .int 2, .int 9]) S2 Wp (hr.mono (by decide)) hD (by omega) (S2.base.atV 0).js (Jd.js (jd_lst (ja_cons jd_int (ja_cons jd_int (ja_cons jd_int ja_nil))))) (by decide) (by decide) fun v2 x μ2 H3 hx st2 S3 => tA_nil ?_))))) nd
  obtain ⟨room, rfl, r0, r9⟩ : ∃ room : Int, x = .int room ∧ 1 ≤ room ∧ room ≤ 9 := by
    simp only [List.mem_cons, List.not_mem_nil, or_false] at hx
    rcases hx with rfl | rfl | rfl <;> exact ⟨_, rfl, by decide, by decide⟩
  have hD2 := st2 _ _ _ hD
  refine callM1 S3.base (ss := [.val (.ref a), .dat (.int room)]) S3.vals rfl (preD hD2 (by omega) (by omega) (by omega)) fun v3 s3 μ3 H4 hR3 S4 hv3 => ?_
  obtain ⟨z, rfl, z0, z1, st3⟩ := sD hR3
  have hD3 := st3 _ _ _ hD2
  refine ⟨1, z, dInt p0, dInt hv3, ?_⟩
  have S5 := S4.set 1 (s := .dat (.int (1 + z))) (v := .int (1 + z)) (.int _)
  have S5 : Sy K B M0 [some (.val (.ref a)), some (.dat (.int (1 + z)))] μ3 _ H4 := S5
  have hz : (0 : Int) < 1 + z := by omega
  refine sy_retE (jm_callE Wp (hr.mono (by decide)) (tA_cons (S5.sx.ev (S5.atV 0).js fun v1 H2 S2 => tA_cons (tW_lst (n := 0) (tA_cons (S2.ev (Jd.js (Jd.is (d' := dR 0) (jd_tup (ja_cons jd_int (ja_cons jd_int ja_nil))) rfl)) fun v2 H6 S6 => tA_cons (S6.ev (Jd.js (Jd.is (d' := dR 1) (jd_tup (ja_cons jd_int (ja_cons jd_int ja_nil))) rfl)) fun v4 H7 S7 => tA_cons
    (jd_callE Wq (hr.mono (by decide)) (tA_cons (sx_draw0 S7 Wd (hr.mono (by decide)) hD3 (by omega) (S7.base.atV 0).js (jd_add (S7.base.at 1) jd_int).js (by omega) (by omega) fun v5 y μ5 H8 y0 y1 st5 S8 => tA_cons (S8.ev (S8.base.at 1).js fun v6 H9 S9 => tA_nil ?_)))))))))))
  have b1 : Bt 9000 (1 + z) := Nat.lt_of_le_of_lt (by omega : (1 + z).natAbs ≤ 16) (Nat.lt_of_lt_of_le (by decide : 16 < 2 ^ 5) (Nat.pow_le_pow_right (by decide) (by decide)))
  refine sx_spd (ts := [.val (.ref a), .dat (dR 0), .dat (dR 1)]) (vs := [v1, v2, v4]) (ds := [.int y, .int (1 + z)]) (ws := [v5, v6]) S9 rfl rfl ⟨y, 1 + z, rfl, hz, b1, rfl⟩ fun v7 H10 S10 => tA_nil ⟨by simp, fun c hc => tA_nil ?_⟩
  have S11 := Sx.mkLst (ts := [.val (.ref a)]) (us := [dR 0, dR 1, dR (Rat.divInt y (1 + z))].map .dat) (vs := [v1]) (ws := [v2, v4, v7]) (ds := [dR 0, dR 1, dR (Rat.divInt y (1 + z))]) S10 rfl rfl hc
  have hD5 := st5 _ _ _ hD3
  refine callM1 S11.base (ss := [.val (.ref a), .dat (.list [dR 0, dR 1, dR (Rat.divInt y (1 + z))])]) S11.vals rfl ⟨a, l, _, _, rfl, by simp, by simp, by omega, hD5⟩ fun v8 s8 μ8 H12 hR8 S12 hv8 => ?_
  obtain ⟨x, rfl, hx, st8⟩ := sP hR8
  have st : Stp 4 μ μ8 := ((st2.trans st3).trans st5).trans st8
  have yb : Bz 5 (Rat.divInt y (1 + z)) := bz_of hz (by decide) (by omega) (by omega)
  have e : Rat.divInt y (1 + z) * ((1 + z : Int) : Rat) = (y : Rat) := by
    have p : (0 : Rat) < ((1 + z : Int) : Rat) := Rat.intCast_pos.mpr hz
    have ne : ((1 + z : Int) : Rat) ≠ 0 := by grind
    rw [Rat.divInt_eq_div]; grind
  have yl : Rat.divInt y (1 + z) ≤ 1 := by
    have p : (0 : Rat) < ((1 + z : Int) : Rat) := Rat.intCast_pos.mpr hz
    have q : (y : Rat) ≤ ((1 + z : Int) : Rat) := Rat.intCast_le_intCast.mpr (by omega)
    rcases (Rat.le_total : Rat.divInt y (1 + z) ≤ 1 ∨ 1 ≤ Rat.divInt y (1 + z)) with h | h
    · exact h
    · have m := mul_nn (a := Rat.divInt y (1 + z) - 1) (b := ((1 + z : Int) : Rat)) (by grind) (by grind)
      have m2 : (Rat.divInt y (1 + z) - 1) * ((1 + z : Int) : Rat) ≤ 0 := by grind
      rcases Rat.le_iff_lt_or_eq.mp h with h2 | h2
      · have := Rat.mul_pos (a := Rat.divInt y (1 + z) - 1) (by grind) p
        grind
      · rw [← h2]; exact Rat.le_refl
  refine k v8 (.dat x) μ8 H12 ?_ (S12.one hv8)
  simp only [List.mem_cons, List.not_mem_nil, or_false] at hx
  rcases hx with rfl | rfl | rfl
  · exact ⟨0, by grind, by grind, bz_zero.mono (by decide), rfl, st⟩
  · exact ⟨1, by grind, by grind, bz_one.mono (by decide), rfl, st⟩
  · exact ⟨_, Rat.divInt_nonneg (by omega) (by omega), yl, yb.mono (by decide), rfl, st⟩
theorem div_lt' {a b d : Int} (hd : 0 < d) (h : a < b) : Rat.divInt a d < Rat.divInt b d := by
  have p : (0 : Rat) < (d : Rat) := Rat.intCast_pos.mpr hd
  have ne : (d : Rat) ≠ 0 := by grind
  have e1 : Rat.divInt a d * (d : Rat) = (a : Rat) := by rw [Rat.divInt_eq_div]; grind
  have e2 : Rat.divInt b d * (d : Rat) = (b : Rat) := by rw [Rat.divInt_eq_div]; grind
  have q : (a : Rat) < (b : Rat) := Rat.intCast_lt_intCast.mpr h
  generalize Rat.divInt a d = x at *
  generalize Rat.divInt b d = y at *
  rcases (Rat.le_total : x ≤ y ∨ y ≤ x) with h2 | h2
  · rcases Rat.le_iff_lt_or_eq.mp h2 with h3 | h3
    · exact h3
    · rw [h3] at e1; grind
  · have m := mul_nn (a := x - y) (b := (d : Rat)) (by grind) (by grind)
    grind
theorem div_le1 {b d : Int} (hd : 0 < d) (h : b ≤ d) : Rat.divInt b d ≤ 1 := by
  have h1 : Rat.divInt d d = 1 := by
    have p : (0 : Rat) < (d : Rat) := Rat.intCast_pos.mpr hd
    have ne : (d : Rat) ≠ 0 := by grind
    rw [Rat.divInt_eq_div]; grind
  rcases Int.lt_or_eq_of_le h with q | q
  · have := div_lt' hd q; rw [h1] at this; grind
  · rw [q, h1]; exact Rat.le_refl
def PrOk (p : Rat × Rat) : Prop := 0 ≤ p.2 ∧ p.2 < p.1 ∧ p.1 ≤ 1 ∧ Bz 8 p.1 ∧ Bz 8 p.2
def PrePs : List Sv → Mu → Prop := fun ss μ => ∃ (a l : Addr) (n : Nat), ss = [.val (.ref a), .dat (.int 8)] ∧ n < 2 ^ 29 ∧ Drs a l n μ
theorem fd_law_sr_pairs (T : Tx K mg) : Fd CX0 P w K mg base 4 "_law_sr_pairs" ["draws", "many"] (spM K 2 PrePs (fun _ μ s μ' => ∃ ps : Prs, RsOk ps ∧ s = .dat (psD ps) ∧ Stp 40 μ μ') noF) := by
  have Wd := fd_law_draw (P := P) (w := w) (base := base) T
  have Wp := fd_law_pick (P := P) (w := w) (base := base) T
  have Wq := fd_law_q (P := P) (w := w) (base := base) T
  obtain ⟨fd, F, hm⟩ := T.f_law_sr_pairs
  refine fd_mk F hm (ok_M F sc_law_sr_pairs rfl fun cdv A outer s H E B M0 vs ss μ D' hr hl hP S k kn => ?_) (fun _ _ _ _ _ _ us hl => match us, hl with | [_, _], _ => rfl)
  obtain ⟨a, l, n, rfl, hn, hD⟩ := hP
  have nd := sc_law_sr_pairs.nd
  refine sy_setE 2 (S.evN (jn_lst ja_nil) fun c H1 S1 => ?_) nd
  have S1 := (S1.set 2 (s := .val (.ref c)) (v := .ref c) rfl).perm (List.perm_append_comm (l₁ := μ) (l₂ := [_]))
  have S1 : Sy K B M0 [some (.val (.ref a)), some (.dat (.int 8)), some (.val (.ref c)), none, none, none, none] (μ ++ [(c, .lst ((([] : Prs).map pD).map .dat))]) _ H1 := S1
  refine sy_forE (B := B) (M0 := M0) (ρ := [some (.val (.ref a)), some (.dat (.int 8)), some (.val (.ref c)), none, none, none, none]) (fun μ1 ds => ∃ (z : Int) (μD : Mu), 0 ≤ z ∧ z < 8 ∧ Stp 1 μ μD ∧ μ1 = μD ++ [(c, .lst ((([] : Prs).map pD).map .dat))] ∧ ds = rgD 0 (1 + z).toNat) (fun R hR0 => ?_) (fun d ρ => ρ.set 3 (some (.dat d))) (js := [3]) (fun _ _ d ρ' _ _ => jg_name 3 nd)
    (fun _ _ i ρ' μ' => ∃ (ps : Prs) (μD : Mu), ps.length = i ∧ i ≤ 8 ∧ (∀ p ∈ ps, PrOk p) ∧ Stp (1 + 4 * i) μ μD ∧ μ' = μD ++ [(c, .lst ((ps.map pD).map .dat))] ∧ ∃ o3 o4 o5 o6, ρ' = [some (.val (.ref a)), some (.dat (.int 8)), some (.val (.ref c)), o3, o4, o5, o6]) ?_ ?_ ?_ PassesOwn.never rfl
  · refine leI (pi_range1 rfl T.n_range (pa_cons pe_W pa_nil rfl)) (leW (pe_op op_add pe_W pe_W) (S1.ev jd_int fun v0 H2 S2 x1 p0 => sx_draw (ts := []) (vs := []) (μD := μ) (μ2 := [(c, .lst ((([] : Prs).map pD).map .dat))]) S2.sx Wd (hr.mono (by decide)) hD (by omega) (S2.atV 0).js (S2.at 1).js (by decide) (by decide) fun v z μ2 H3 z0 z1 st S3 => ?_))
    have hv := dInt (S3.dats (ds := [.int z]) |> fun h => by cases h with | cons p _ => exact p)
    exact ⟨1, z, dInt p0, hv, 1 + z, rfl, by omega, by omega, hR0 _ _ _ _ ⟨z, μ2, z0, z1, st, rfl, rfl⟩ S3.base yl_rng⟩
  · rintro μ1 ds ⟨z, μD, z0, z1, st, rfl, rfl⟩
    exact ⟨[], μD, rfl, by decide, by simp, st, rfl, _, _, _, _, rfl⟩
  · rintro μ1 _ i d ρ' μ' σ' H' B' ⟨z, _, z0, z1, _, rfl, rfl⟩ hd ⟨ps, μD, h1, h2, h3, h4, rfl, o3, o4, o5, o6, rfl⟩ hB S2
    have hi : i < 8 := by have := (rgD_get hd).1; omega
    have hD2 := h4 _ _ _ hD
    refine sy_setE 4 (leW (pe_op op_add pe_W pe_W) (S2.ev jd_int fun v0 H1 S3 x1 p0 => jm_callE Wd (hr.mono (by decide)) (tA_cons (S3.sx.ev (S3.atV 0).js fun v1 H2 S4 => tA_cons (sx_pick (μD := μD) (xs := [.int 3, .int 9, .int 40]) S4 Wp (hr.mono (by decide)) hD2 (by omega) (S4.base.atV 0).js (Jd.js (jd_lst (ja_cons jd_int (ja_cons jd_int (ja_cons jd_int ja_nil))))) (by decide) (by decide) fun v2 x μ2 H3 hx st2 S5 => tA_nil ?_))))) nd
    obtain ⟨room, rfl, r0, r9⟩ : ∃ room : Int, x = .int room ∧ 1 ≤ room ∧ room ≤ 40 := by
      simp only [List.mem_cons, List.not_mem_nil, or_false] at hx
      rcases hx with rfl | rfl | rfl <;> exact ⟨_, rfl, by decide, by decide⟩
    have hD3 := st2 _ _ _ hD2
    refine callM (μ1 := μ2) S5.base (ss := [.val (.ref a), .dat (.int room)]) S5.vals rfl (preD hD3 (by omega) (by omega) (by omega)) (fun v3 s3 μ3 H4 hR3 S6 hv3 => ?_) (fun _ _ h => h.elim)
    obtain ⟨y, rfl, y0, y1, st3⟩ := sD hR3
    have hD4 := st3 _ _ _ hD3
    refine ⟨2, y, dInt p0, dInt hv3, ?_⟩
    have S7 := S6.set 4 (s := .dat (.int (2 + y))) (v := .int (2 + y)) (.int _)
    have S7 : Sy K B' M0 [some (.val (.ref a)), some (.dat (.int 8)), some (.val (.ref c)), _, some (.dat (.int (2 + y))), o5, o6] (μ3 ++ [(c, .lst ((ps.map pD).map .dat))]) _ H4 := S7
    refine sy_setE 5 (sx_draw (ts := []) (vs := []) S7.sx Wd (hr.mono (by decide)) hD4 (by omega) (S7.atV 0).js (S7.at 4).js (by omega) (by omega) fun v5 lo μ5 H5 l0 l1 st5 S8 => ?_) nd
    have hv5 := dInt (S8.dats (ds := [.int lo]) |> fun h => by cases h with | cons p _ => exact p)
    have S9 := S8.base.set 5 (s := .dat (.int lo)) (v := v5) (by rw [hv5]; exact .int _)
    have S9 : Sy K B' M0 [some (.val (.ref a)), some (.dat (.int 8)), some (.val (.ref c)), _, some (.dat (.int (2 + y))), some (.dat (.int lo)), o6] (μ5 ++ [(c, .lst ((ps.map pD).map .dat))]) _ H5 := S9
    have hD5 := st5 _ _ _ hD4
    refine sy_setE 6 (leW (pe_op op_add pe_W pe_W) (S9.ev (jd_add (S9.at 5) jd_int) fun v6 H6 S10 x6 p6 => sx_draw (ts := []) (vs := []) S10.sx Wd (hr.mono (by decide)) hD5 (by omega) (S10.atV 0).js (jd_sub (S10.at 4) (S10.at 5)).js (by omega) (by omega) fun v7 hh μ7 H7 g0 g1 st7 S11 => ?_)) nd
    have hv7 := dInt (S11.dats (ds := [.int hh]) |> fun h => by cases h with | cons p _ => exact p)
    refine ⟨lo + 1, hh, dInt p6, hv7, ?_⟩
    have S12 := S11.base.set 6 (s := .dat (.int (lo + 1 + hh))) (v := .int (lo + 1 + hh)) (.int _)
    have S12 : Sy K B' M0 [some (.val (.ref a)), some (.dat (.int 8)), some (.val (.ref c)), _, some (.dat (.int (2 + y))), some (.dat (.int lo)), some (.dat (.int (lo + 1 + hh)))] (μ7 ++ [(c, .lst ((ps.map pD).map .dat))]) _ H7 := S12
    have u0 : (0 : Int) < 2 + y := by omega
    have b1 : Bt 9000 (2 + y) := Nat.lt_of_le_of_lt (by omega : (2 + y).natAbs ≤ 64) (Nat.lt_of_lt_of_le (by decide : 64 < 2 ^ 7) (Nat.pow_le_pow_right (by decide) (by decide)))
    have hix : (μ7 ++ [(c, Mo.lst ((ps.map pD).map .dat))])[μ7.length]? = some (c, .lst ((ps.map pD).map .dat)) := by simp
    refine sy_app S12 (S12.atV 2) (s := .dat (pD (Rat.divInt (lo + 1 + hh) (2 + y), Rat.divInt lo (2 + y)))) (Jd.js (jd_tup (ja_cons (jd_call Wq (hr.mono (by decide)) (ja_cons (S12.at 6) (ja_cons (S12.at 4) ja_nil)) rfl ⟨_, _, rfl, u0, b1, rfl⟩) (ja_cons (jd_call Wq (hr.mono (by decide)) (ja_cons (S12.at 5) (ja_cons (S12.at 4) ja_nil)) rfl ⟨_, _, rfl, u0, b1, rfl⟩) ja_nil)))) hix (by simp; omega) fun H8 S13 => tB_nil ?_
    refine ⟨_, _, ⟨ps ++ [(Rat.divInt (lo + 1 + hh) (2 + y), Rat.divInt lo (2 + y))], μ7, by simp; omega, by omega, ?_, ((((h4.trans st2).trans st3).trans st5).trans st7).le (by omega), ?_, _, _, _, _, rfl⟩, S13⟩
    · intro p hp
      rcases List.mem_append.mp hp with hp | hp
      · exact h3 p hp
      · rw [List.mem_singleton.mp hp]
        exact ⟨Rat.divInt_nonneg (by omega) (by omega), div_lt' u0 (by omega), div_le1 u0 (by omega), bz_of u0 (by decide) (by omega) (by omega), bz_of u0 (by decide) (by omega) (by omega)⟩
    · simp
  · rintro μ1 _ ρ' μ' σ' H' ⟨z, _, z0, z1, _, rfl, rfl⟩ ⟨ps, μD, h1, h2, h3, h4, rfl, o3, o4, o5, o6, rfl⟩ S2
    rw [rgD_len] at h1 h2 h4
    have hix : (μD ++ [(c, Mo.lst ((ps.map pD).map .dat))])[μD.length]? = some (c, .lst ((ps.map pD).map .dat)) := by simp
    have S3 := S2.frz 2 μD.length rfl hix
    have e : (μD ++ [(c, Mo.lst ((ps.map pD).map .dat))]).eraseIdx μD.length = μD := by rw [List.eraseIdx_append_of_length_le (Nat.le_refl _)]; simp
    rw [e] at S3
    have S3 : Sy K B M0 [some (.val (.ref a)), some (.dat (.int 8)), some (.dat (.list (ps.map pD))), o3, o4, o5, o6] μD σ' H' := S3
    exact sy_retE (S3.ev (jd_tupOf T.n_tuple (S3.at 2)) fun v H6 S6 _ pv => k v (.dat (psD ps)) μD H6 ⟨ps, ⟨by omega, by omega, h3⟩, rfl, h4.le (by omega)⟩ (S6.one pv))
end K60

set_option maxHeartbeats 4000000
namespace K60
open PySem PySem.Spec PyProof.Rows L2 J Evl
variable {P : Program} {w : World} {K : PySem.W.Frag} {mg : Str → Option Value} {base : Heap}
def PreNr : List Sv → Mu → Prop := fun ss μ => ∃ (a l : Addr) (n m : Nat) (s : Rat), ss = [.val (.ref a), .dat (.int m), .dat (dR s)] ∧ 1 ≤ m ∧ m ≤ 8 ∧ SlOk s ∧ n < 2 ^ 28 ∧ Drs a l n μ
structure NrOk (m : Nat) (s : Rat) (c f g : List Rat) (t : Rat) : Prop where
  sc : ShL m c
  sf : ShL m f
  sg : ShL m g
  cb : ∀ x ∈ c, Bz 7 x
  fb : ∀ x ∈ f, Bz 7 x
  gb : ∀ x ∈ g, Bz 7 x
  t0 : 0 ≤ t
  ts : t ≤ s
  tb : Bz 63 t
def RNr : List Sv → Mu → Sv → Mu → Prop := fun ss μ s' μ' => ∃ (a : Addr) (m : Nat) (s : Rat) (c f g : List Rat) (t : Rat), ss = [.val (.ref a), .dat (.int m), .dat (dR s)] ∧ NrOk m s c f g t ∧ s' = .dat (.tuple [rT (mixR c f t), rT (mixR c g t)]) ∧ Stp 73 μ μ'
theorem fd_law_k60_near (T : Tx K mg) : Fd CX0 P w K mg base 6 "_law_k60_near" ["draws", "many", "slack"] (spM K 3 PreNr RNr noF) := by
  have Wsh := fd_law_shares (P := P) (w := w) (base := base) T
  have Wp := fd_law_pick (P := P) (w := w) (base := base) T
  have Wt := fd_law_times (P := P) (w := w) (base := base) T
  have Wm := fd_law_minus (P := P) (w := w) (base := base) T
  have Wa := fd_law_plus (P := P) (w := w) (base := base) T
  obtain ⟨fd, F, hm⟩ := T.f_law_k60_near
  refine fd_mk F hm (ok_M F sc_law_k60_near rfl fun cdv A outer st H E B M0 vs ss μ D' hr hl hP S k kn => ?_) (fun _ _ _ _ _ _ us hl => match us, hl with | [_, _, _], _ => rfl)
  obtain ⟨a, l, n, m, s, rfl, m1, m8, hs, hn, hD⟩ := hP
  have nd := sc_law_k60_near.nd
  refine sy_par3E 5 6 7 (tA_cons (Sx.call (μ1 := μ) (μ2 := []) (ts := []) (vs := []) (by rw [List.append_nil]; exact S.sx) Wsh (hr.mono (by decide)) (jsa_cons (by rw [List.append_nil]; exact (S.atV 0).js) (jsa_cons (by rw [List.append_nil]; exact (S.at 1).js) jsa_nil)) rfl ⟨a, l, n, m, rfl, m1, m8, by omega, hD⟩ fun v1 s1 μ1 H1 hR1 S1 => ?_)) rfl nd (by decide) (by decide) (by decide) rfl
  obtain ⟨_, m', c, e1, c1, c2, rfl, st1⟩ := hR1
  simp only [List.cons.injEq, Sv.dat.injEq, PyData.int.injEq, and_true] at e1
  have em : m' = m := by omega
  subst em
  have hD1 := st1 _ _ _ hD
  rw [List.append_nil] at S1
  refine tA_cons (Sx.call (μ1 := μ1) (μ2 := []) (by rw [List.append_nil]; exact S1) Wsh (hr.mono (by decide)) (jsa_cons (by rw [List.append_nil]; exact (S1.base.atV 0).js) (jsa_cons (by rw [List.append_nil]; exact (S1.base.at 1).js) jsa_nil)) rfl ⟨a, l, _, m', rfl, m1, m8, by omega, hD1⟩ fun v2 s2 μ2 H2 hR2 S2 => ?_)
  obtain ⟨_, m2, f, e2, f1, f2, rfl, st2⟩ := hR2
  simp only [List.cons.injEq, Sv.dat.injEq, PyData.int.injEq, and_true] at e2
  have em : m2 = m' := by omega
  subst em
  have hD2 := st2 _ _ _ hD1
  rw [List.append_nil] at S2
  refine tA_cons (Sx.call (μ1 := μ2) (μ2 := []) (by rw [List.append_nil]; exact S2) Wsh (hr.mono (by decide)) (jsa_cons (by rw [List.append_nil]; exact (S2.base.atV 0).js) (jsa_cons (by rw [List.append_nil]; exact (S2.base.at 1).js) jsa_nil)) rfl ⟨a, l, _, m2, rfl, m1, m8, by omega, hD2⟩ fun v3 s3 μ3 H3 hR3 S3 => tA_nil ⟨v1, v2, v3, rfl, ?_⟩)
  obtain ⟨_, m3, g, e3, g1, g2, rfl, st3⟩ := hR3
  simp only [List.cons.injEq, Sv.dat.injEq, PyData.int.injEq, and_true] at e3
  have em : m3 = m2 := by omega
  subst em
  have hD3 := st3 _ _ _ hD2
  rw [List.append_nil] at S3
  have hvs := S3.vals
  cases hvs with | cons p1 hvs => cases hvs with | cons p2 hvs => cases hvs with | cons p3 _ =>
  have S4 := ((S3.base.set 5 (s := .dat (rT c)) (v := v1) p1).set 6 (s := .dat (rT f)) (v := v2) p2).set 7 (s := .dat (rT g)) (v := v3) p3
  have S4 : Sy K B M0 [some (.val (.ref a)), some (.dat (.int m3)), some (.dat (dR s)), none, none, some (.dat (rT c)), some (.dat (rT f)), some (.dat (rT g)), none, none, none, none] μ3 _ H3 := S4
  -- the share
  refine sy_setE 3 (jd_callE Wt (hr.mono (by decide)) (tA_cons (S4.sx.ev (S4.at 2).js fun v4 H4 S5 => tA_cons (sx_pick0 (xs := [dR 1, dR 1, dR (1 / 2), dR 0]) S5 Wp (hr.mono (by decide)) hD3 (by omega) (S5.base.atV 0).js (Jd.js (jd_lst (ja_cons (Jd.is (d' := dR 1) (jd_tup (ja_cons jd_int (ja_cons jd_int ja_nil))) rfl) (ja_cons (Jd.is (d' := dR 1) (jd_tup (ja_cons jd_int (ja_cons jd_int ja_nil))) rfl) (ja_cons (Jd.is (d' := dR (1 / 2)) (jd_tup (ja_cons jd_int (ja_cons jd_int ja_nil))) half_dR.symm) (ja_cons (Jd.is (d' := dR 0) (jd_tup (ja_cons jd_int (ja_cons jd_int ja_nil))) rfl) ja_nil)))))) (by simp) (by simp) fun v5 x μ4 H5 hx st4 S6 => tA_nil ?_)))) nd
  obtain ⟨u, rfl, u0, u1, ub⟩ : ∃ u : Rat, x = dR u ∧ 0 ≤ u ∧ u ≤ 1 ∧ Bz 2 u := by
    simp only [List.mem_cons, List.not_mem_nil, or_false] at hx
    rcases hx with rfl | rfl | rfl | rfl
    · exact ⟨1, rfl, by grind, by grind, bz_one.mono (by decide)⟩
    · exact ⟨1, rfl, by grind, by grind, bz_one.mono (by decide)⟩
    · exact ⟨1 / 2, rfl, by grind, by grind, bz_half⟩
    · exact ⟨0, rfl, by grind, by grind, bz_zero.mono (by decide)⟩
  have tb : Bz 63 (s * u) := (bz_mul hs.bz ub).mono (by decide)
  have t0 : 0 ≤ s * u := mul_nn hs.lo u0
  have ts : s * u ≤ s := by have := mul_nn hs.lo (b := 1 - u) (by grind); grind
  refine sx_spd (ts := []) (vs := []) (ds := [dR s, dR u]) (ws := [v4, v5]) S6 rfl rfl ⟨s, u, rfl, hs.bz.mono (by decide), ub.mono (by decide), rfl⟩ fun v6 H6 S7 => ?_
  have p6 := S7.vals
  cases p6 with | cons p6 _ =>
  have S8 := S7.base.set 3 (s := .dat (dR (s * u))) (v := v6) p6
  have S8 : Sy K B M0 [some (.val (.ref a)), some (.dat (.int m3)), some (.dat (dR s)), some (.dat (dR (s * u))), none, some (.dat (rT c)), some (.dat (rT f)), some (.dat (rT g)), none, none, none, none] μ4 _ H6 := S8
  generalize s * u = t at *
  have b1 := bz_sub bz_one tb
  -- rest, found
  refine sy_tup2 8 9 (tA_cons (S8.sx.ev (Jd.js (jd_call Wm (hr.mono (by decide)) (ja_cons (Jd.is (d' := dR 1) (jd_tup (ja_cons jd_int (ja_cons jd_int ja_nil))) rfl) (ja_cons (S8.at 3) ja_nil)) rfl ⟨1, t, rfl, bz_one.mono (by decide), tb.mono (by decide), rfl⟩)) fun v7 H7 S9 => tA_cons (S9.evN (jn_lst ja_nil) fun ad H8 S10 => tA_nil ⟨v7, .ref ad, rfl, fun tq htq => ?_⟩))) rfl nd
  have p7 := S10.vals
  cases p7 with | cons p7 _ =>
  have S11 := ((S10.base.set 8 (s := .dat (dR (1 - t))) (v := v7) p7).set 9 (s := .val (.ref ad)) (v := .ref ad) rfl).ex (Ex.new (o := .tup [v7, .ref ad]) htq)
  have S11 : Sy K B M0 [some (.val (.ref a)), some (.dat (.int m3)), some (.dat (dR s)), some (.dat (dR t)), none, some (.dat (rT c)), some (.dat (rT f)), some (.dat (rT g)), some (.dat (dR (1 - t))), some (.val (.ref ad)), none, none] ((ad, .lst ((([] : List D)).map .dat)) :: μ4) _ (upd H8 tq (.tup [v7, .ref ad])) := S11
  let outs : List D := [rT (mixR c f t), rT (mixR c g t)]
  refine sy_for (ds := [rT f, rT g]) S11 (jw_lst (jd_lst (ja_cons (S11.at 6) (ja_cons (S11.at 7) ja_nil)))) (fun d ρ => ρ.set 4 (some (.dat d))) (js := [4]) (fun d ρ' hd => jg_name 4 nd)
    (fun i ρ' μ' => μ' = (ad, .lst ((outs.take i).map .dat)) :: μ4 ∧ ∃ o4 o10 o11, ρ' = [some (.val (.ref a)), some (.dat (.int m3)), some (.dat (dR s)), some (.dat (dR t)), o4, some (.dat (rT c)), some (.dat (rT f)), some (.dat (rT g)), some (.dat (dR (1 - t))), some (.val (.ref ad)), o10, o11]) ⟨rfl, _, _, _, rfl⟩ ?_ ?_ PassesOwn.never rfl
  · rintro i d ρ' μ' σ' H' B' hd ⟨rfl, o4, o10, o11, rfl⟩ hB S12
    obtain ⟨h, rfl, hh, hb, hi⟩ : ∃ h : List Rat, d = rT h ∧ ShL m3 h ∧ (∀ x ∈ h, Bz 7 x) ∧ (outs.take i ++ [rT (mixR c h t)]) = outs.take (i + 1) := by
      match i, hd with
      | 0, hd => cases hd; exact ⟨f, rfl, f1, f2, rfl⟩
      | 1, hd => cases hd; exact ⟨g, rfl, g1, g2, rfl⟩
      | _ + 2, hd => cases hd
    have lc := c1.1
    have ol : outs.length = 2 := rfl
    refine sy_app S12 (S12.atV 9) (s := .dat (rT (mixR c h t))) (Jd.js (Jd.is (jd_tupOf T.n_tuple (Jn.jd (sy_lcM (xs := c.zip h) (g := fun p => .tuple [dR p.1, dR p.2]) S12 (by rw [← zipD_map]; exact jw_zipB (b1 := true) (b2 := true) T.n_zip (S12.at 5) (S12.at 4)) (fun p => dR ((1 - t) * p.1 + t * p.2)) (zip_len (by omega)) (fun d ρ => match d with | .tuple [x, y] => (ρ.set 10 (some (.dat x))).set 11 (some (.dat y)) | _ => ρ) (js := [10, 11]) (own := [("here", 10), ("there", 11)]) (by simp) ?_ ?_ (blkOk_by (by rfl)) rfl nd))) (by unfold rT mixR; rw [List.map_map]; rfl))) (i := 0) rfl (by simp; omega) fun H9 S13 => tB_nil ?_
    · rintro _ d ⟨s, H, C, cl, fp, rfl⟩ _
      exact jg_tup rfl (jgs_cons (jg_name 10 nd) (jgs_cons (jg_name 11 nd) jgs_nil))
    · rintro i ⟨x, y⟩ _ B' M' σ' H' hx ⟨s2, H, C, cl, fp, rfl⟩ S'
      have mm := List.mem_of_getElem? hx
      have hx := c2 x (List.of_mem_zip mm).1
      have hy := hb y (List.of_mem_zip mm).2
      exact jd_call Wa (hr.mono (by decide)) (ja_cons (jd_call Wt (hr.mono (by decide)) (ja_cons (S'.at 8) (ja_cons (S'.at 10) ja_nil)) rfl ⟨1 - t, x, rfl, b1.mono (by decide), hx.mono (by decide), rfl⟩) (ja_cons (jd_call Wt (hr.mono (by decide)) (ja_cons (S'.at 3) (ja_cons (S'.at 11) ja_nil)) rfl ⟨t, y, rfl, tb.mono (by decide), hy.mono (by decide), rfl⟩) ja_nil)) rfl ⟨_, _, rfl, (bz_mul b1 hx).mono (by decide), (bz_mul tb hy).mono (by decide), rfl⟩
    · refine ⟨_, _, ⟨?_, _, _, _, rfl⟩, S13⟩
      rw [← hi, List.map_append]; rfl
  · rintro ρ' μ' σ' H' ⟨rfl, o4, o10, o11, rfl⟩ S12
    have S13 := S12.frz 9 0 rfl rfl
    have S13 : Sy K B M0 [some (.val (.ref a)), some (.dat (.int m3)), some (.dat (dR s)), some (.dat (dR t)), o4, some (.dat (rT c)), some (.dat (rT f)), some (.dat (rT g)), some (.dat (dR (1 - t))), some (.dat (.list [rT (mixR c f t), rT (mixR c g t)])), o10, o11] μ4 σ' H' := S13
    exact sy_retE (S13.ev (jd_tup (ja_cons (jd_ixL (n := 0) (S13.at 9) jd_int rfl rfl) (ja_cons (jd_ixL (n := 1) (S13.at 9) jd_int rfl rfl) ja_nil))) fun v H6 S6 _ pv => k v (.dat (.tuple [rT (mixR c f t), rT (mixR c g t)])) μ4 H6 ⟨a, m3, s, c, f, g, t, rfl, ⟨c1, f1, g1, c2, f2, g2, t0, ts, tb⟩, rfl, (((st1.trans st2).trans st3).trans st4).le (by decide)⟩ (S6.one pv))
end K60

set_option maxHeartbeats 4000000
namespace K60
open PySem PySem.Spec PyProof.Rows L2 J Evl
variable {P : Program} {w : World} {K : PySem.W.Frag} {mg : Str → Option Value} {base : Heap}
theorem ap_bz {b n : Nat} {f g : List Rat} (hf : ShL n f) (hg : ShL n g) (h8 : n ≤ 8) (h1 : ∀ x ∈ f, Bz b x) (h2 : ∀ x ∈ g, Bz b x) (hb : b ≤ 239) : ApOk f g ∧ Bz 4000 (apartR f g) := by
  have lf := hf.1
  have lg := hg.1
  have a := sum_bz h1 (by omega) (by omega)
  have c := sum_bz h2 (by omega) (by omega)
  have d := sum_bz (absd_bz h1 h2) (absd_len (by omega)) (by omega)
  exact ⟨⟨⟨n, hf, hg, h8⟩, a.1, c.1, d.1⟩, (bz_mul bz_half d.2).mono (by omega)⟩
theorem absd_comm : ∀ {f g : List Rat}, absd g f = absd f g
  | [], [] => rfl
  | [], _ :: _ => rfl
  | _ :: _, [] => rfl
  | x :: f, y :: g => by rw [absd_cons, absd_cons, absd_comm (f := f) (g := g), Rat.abs_sub_comm]
theorem apart_comm {f g : List Rat} : apartR g f = apartR f g := by unfold apartR; rw [absd_comm]
theorem ApOk.comm {f g : List Rat} (h : ApOk f g) : ApOk g f := by
  obtain ⟨n, a, b, c⟩ := h.sa
  exact ⟨⟨n, b, a, c⟩, h.bb, h.ba, by rw [absd_comm]; exact h.bd⟩
theorem lay_rT {l : List Rat} : Lay 6 (rT l) := lay_tup.mpr fun x hx => by
  obtain ⟨q, _, rfl⟩ := List.mem_map.mp hx
  exact lay_dR
theorem sz_rT (l : List Rat) : sz (rT l) = 3 * l.length + 1 := by
  show szs (l.map dR) + 1 = _
  have : szs (l.map dR) = 3 * l.length := by
    induction l with
    | nil => rfl
    | cons q r ih => simp only [List.map_cons, szs, List.length_cons, ih, sz_dR]; omega
  rw [this]
theorem lay_pr {f g : List Rat} : Lay 7 (.tuple [rT f, rT g]) := lay_tup.mpr fun x hx => by
  simp only [List.mem_cons, List.not_mem_nil, or_false] at hx
  rcases hx with rfl | rfl <;> exact lay_rT
theorem sz_pr (f g : List Rat) : sz (.tuple [rT f, rT g]) = 3 * f.length + 3 * g.length + 3 := by
  show szs [rT f, rT g] + 1 = _
  simp only [szs, sz_rT]; omega
def PreRt : List Sv → Mu → Prop := fun ss μ => ∃ (a l : Addr) (n : Nat) (ps : Prs) (s : Rat), ss = [.val (.ref a), .dat (psD ps), .dat (dR s)] ∧ RsOk ps ∧ SlOk s ∧ n < 2 ^ 27 ∧ Drs a l n μ
theorem fd_law_k60_right (T : Tx K mg) : Fd CX0 P w K mg base 10 "_law_k60_right" ["draws", "rates", "slack"] (spM K 3 PreRt (fun _ μ s μ' => s = .dat (.bool true) ∧ Stp 500 μ μ') noF) := by
  have Wn := fd_law_k60_near (P := P) (w := w) (base := base) T
  have Wsame := fd_law_same (P := P) (w := w) (base := base) T
  have Wg := fd_widest_gap (P := P) (w := w) (base := base) T
  have Ws := fd_gap_shares (P := P) (w := w) (base := base) T
  have Wr := fd_nearly_reversing (P := P) (w := w) (base := base) T
  have Wa := fd_apart (P := P) (w := w) (base := base) T
  have Wsa := fd_law_sr_apart (P := P) (w := w) (base := base) T
  have Wsg := fd_law_sr_gap (P := P) (w := w) (base := base) T
  have Wss := fd_law_sr_are_shares (P := P) (w := w) (base := base) T
  have Wsr := fd_law_sr_reverses (P := P) (w := w) (base := base) T
  have Wl := fd_law_less (P := P) (w := w) (base := base) T
  obtain ⟨fg, okg, Fg, hmg⟩ := ok_widest_gap (P := P) (w := w) (base := base) T
  obtain ⟨fs, oks, Fs, hms⟩ := ok_gap_shares (P := P) (w := w) (base := base) T
  obtain ⟨fa, oka, Fa, hma⟩ := ok_apart (P := P) (w := w) (base := base) T
  have kbg : KBn K fg ["rates", "slack"] 0 ["slack", "rates"] (fun us ws => us ++ ws.reverse) (fun vs zs => vs ++ zs.reverse) := kbn_rev Fg fun _ _ _ _ _ _ ws h2 => match ws, h2 with | [_, _], _ => rfl
  have kbs : KBn K fs ["rates", "slack"] 0 ["slack", "rates"] (fun us ws => us ++ ws.reverse) (fun vs zs => vs ++ zs.reverse) := kbn_rev Fs fun _ _ _ _ _ _ ws h2 => match ws, h2 with | [_, _], _ => rfl
  have kba : KBn K fa ["one", "other"] 0 ["other", "one"] (fun us ws => us ++ ws.reverse) (fun vs zs => vs ++ zs.reverse) := kbn_rev Fa fun _ _ _ _ _ _ ws h2 => match ws, h2 with | [_, _], _ => rfl
  obtain ⟨fd, F, hm⟩ := T.f_law_k60_right
  refine fd_mk F hm (ok_M F sc_law_k60_right rfl fun cdv A outer st H E B M0 vs ss μ D' hr hl hP S k kn => ?_) (fun _ _ _ _ _ _ us hl => match us, hl with | [_, _, _], _ => rfl)
  obtain ⟨a, l, n, ps, s, rfl, h, hs, hn, hD⟩ := hP
  have nd := sc_law_k60_right.nd
  have hu := hr.units
  have h8 := h.l8
  have h1 := h.l1
  have w1 := sh_w1 h hs.lo hs.hi
  have w2 := sh_w2 h hs.lo hs.hi
  have lw1 := w1.1
  have lw2 := w2.1
  obtain ⟨apw, abw⟩ := ap_bz w1 w2 h8 (w1_bz hs) (w2_bz hs) (by decide)
  have dw1 := dots h (l := wOne ps s) (by omega) (w1_bz hs) (by decide)
  have dw2 := dots h (l := wTwo ps s) (by omega) (w2_bz hs) (by decide)
  have bg : Bz 4000 (wgap ps s) := (wgap_bz h hs).mono (by decide)
  have bs : Bz 4000 s := hs.bz.mono (by decide)
  have aw : apartR (wOne ps s) (wTwo ps s) ≤ s := apart_mix (sh_near h) (sh_low h) (sh_high h) hs.lo
  refine sy_par3E 5 6 7 (tA_cons (S.sx.ev (s := .dat (.int (ps.length : Int))) (Jd.js (Jd.is (jd_len T.n_len (S.at 1) (.inl rfl)) (by rw [List.length_map]))) fun v1 H1 S1 => tA_cons (S1.ev (s := .dat (dR (wgap ps s))) (Jd.js (jd_callX Wg (hr.mono (by decide)) (ja_cons (S1.base.at 1) (ja_cons (S1.base.at 2) ja_nil)) rfl ⟨ps, s, rfl, h, hs, rfl⟩)) fun v2 H2 S2 => tA_cons (S2.ev (s := .dat (.tuple [rT (wOne ps s), rT (wTwo ps s)])) (Jd.js (jd_callX Ws (hr.mono (by decide)) (ja_cons (S2.base.at 1) (ja_cons (S2.base.at 2) ja_nil)) rfl ⟨ps, s, rfl, h, hs, rfl⟩)) fun v3 H3 S3 => tA_nil ⟨v1, v2, v3, rfl, ?_⟩)))) rfl nd (by decide) (by decide) (by decide) rfl
  have hvs := S3.vals
  cases hvs with | cons p1 hvs => cases hvs with | cons p2 hvs => cases hvs with | cons p3 _ =>
  have S4 := ((S3.base.set 5 (s := .dat (.int (ps.length : Int))) (v := v1) p1).set 6 (s := .dat (dR (wgap ps s))) (v := v2) p2).set 7 (s := .dat (.tuple [rT (wOne ps s), rT (wTwo ps s)])) (v := v3) p3
  have S4 : Sy K B M0 [some (.val (.ref a)), some (.dat (psD ps)), some (.dat (dR s)), none, none, some (.dat (.int (ps.length : Int))), some (.dat (dR (wgap ps s))), some (.dat (.tuple [rT (wOne ps s), rT (wTwo ps s)])), none, none] μ _ H3 := S4
  -- the gap is told alike, the shares are shares
  refine sy_when S4 (b := !true || (!true || !true)) (jt_or3 (jt_not (jt_val (jd_call Wsame (hr.mono (by decide)) (ja_cons (jd_callXK2 okg hmg Fg.kp kbg (hr.mono (by decide)) (S4.at 2) (S4.at 1) ⟨ps, s, rfl, h, hs, rfl⟩) (ja_cons (S4.at 6) ja_nil)) rfl ⟨_, rfl, lay_dR.mono (by decide), by rw [sz_dR]; omega, rfl⟩)))
    (fun _ => jt_not (jt_val (jd_call Wss (hr.mono (by decide)) (ja_cons (jd_ixT (n := 0) (d := rT (wOne ps s)) (S4.at 7) jd_int rfl rfl) (ja_cons (S4.at 5) ja_nil)) rfl ⟨ps.length, _, rfl, w1, h8, apw.ba, rfl⟩)))
    fun _ _ => jt_not (jt_val (jd_call Wss (hr.mono (by decide)) (ja_cons (jd_ixT (n := 1) (d := rT (wTwo ps s)) (S4.at 7) jd_int rfl rfl) (ja_cons (S4.at 5) ja_nil)) rfl ⟨ps.length, _, rfl, w2, h8, apw.bb, rfl⟩))) (fun q => by cases q) fun _ H5 S5 => ?_
  refine sy_when S5 (b := decide (s < apartR (wOne ps s) (wTwo ps s)) || (!decide (gapR ps (wOne ps s) (wTwo ps s) = wgap ps s) || !true)) (jt_or3 (jt_val (jd_call Wl (hr.mono (by decide)) (ja_cons (S5.at 2) (ja_cons (jd_call Wsa (hr.mono (by decide)) (ja_cons (jd_ixT (n := 0) (d := rT (wOne ps s)) (S5.at 7) jd_int rfl rfl) (ja_cons (jd_ixT (n := 1) (d := rT (wTwo ps s)) (S5.at 7) jd_int rfl rfl) ja_nil)) rfl ⟨_, _, rfl, apw.ba, apw.bb, apw.bd, rfl⟩) ja_nil)) rfl ⟨_, _, rfl, bs, abw, rfl⟩))
    (fun _ => Jt.is (jt_ne hu (jd_call Wsg (hr.mono (by decide)) (ja_cons (S5.at 1) (ja_cons (S5.at 7) ja_nil)) rfl ⟨ps, _, _, rfl, h, dw1.1, dw2.2, rfl⟩) (S5.at 6) (lay_dR.shaped (by decide)) (lay_dR.shaped (by decide))) (by rw [eqv_dR]))
    fun _ _ => jt_not (jt_val (jd_call Wsame (hr.mono (by decide)) (ja_cons (jd_callXK2 oks hms Fs.kp kbs (hr.mono (by decide)) (S5.at 2) (S5.at 1) ⟨ps, s, rfl, h, hs, rfl⟩) (ja_cons (S5.at 7) ja_nil)) rfl ⟨_, rfl, lay_pr.mono (by decide), by rw [sz_pr]; omega, rfl⟩))) (fun q => ?_) fun _ H6 S6 => ?_
  · rw [decide_eq_true (gap_w h), decide_eq_false (by grind)] at q; cases q
  -- drawn make-ups
  refine sy_forR S6 T.n_range jd_int (by decide) (fun d ρ => ρ.set 3 (some (.dat d))) (js := [3]) (fun d ρ' => jg_name 3 nd)
    (fun i ρ' μ' => Stp (73 * i) μ μ' ∧ ∃ o3 o4 o8 o9, ρ' = [some (.val (.ref a)), some (.dat (psD ps)), some (.dat (dR s)), o3, o4, some (.dat (.int (ps.length : Int))), some (.dat (dR (wgap ps s))), some (.dat (.tuple [rT (wOne ps s), rT (wTwo ps s)])), o8, o9]) ⟨Stp.zero, _, _, _, _, rfl⟩ ?_ ?_ PassesOwn.never rfl
  · rintro i ρ' μ' σ' H' hi ⟨st, o3, o4, o8, o9, rfl⟩ S7
    have hi6 : i < 6 := hi
    have hD7 := st _ _ _ hD
    refine sy_asgE (jm_call1 S7 Wn (hr.mono (by decide)) (jsa_cons (S7.atV 0).js (jsa_cons (S7.at 5).js (jsa_cons (S7.at 2).js jsa_nil))) rfl ⟨a, l, _, ps.length, s, rfl, h1, h8, hs, by omega, hD7⟩ fun v s' μ1 H8 hR S8 hv => ?_)
    obtain ⟨_, m', s2, c, f, g, t, e1, hN, rfl, st1⟩ := hR
    simp only [List.cons.injEq, Sv.dat.injEq, PyData.int.injEq, and_true] at e1
    have em : m' = ps.length := by omega
    have es : s2 = s := (dR_inj e1.2.2).symm
    subst es
    have hc : ShL ps.length c := em ▸ hN.sc
    have hf : ShL ps.length f := em ▸ hN.sf
    have hg : ShL ps.length g := em ▸ hN.sg
    have t1 : t ≤ 1 := by have := hN.ts; have := hs.hi; grind
    have x1 := hc.mix hf hN.t0 t1
    have x2 := hc.mix hg hN.t0 t1
    have y1 : ∀ x ∈ mixR c f t, Bz 145 x := fun x hx => (mix_bz hN.cb hN.fb hN.tb x hx).mono (by decide)
    have y2 : ∀ x ∈ mixR c g t, Bz 145 x := fun x hx => (mix_bz hN.cb hN.gb hN.tb x hx).mono (by decide)
    have hap : apartR (mixR c f t) (mixR c g t) ≤ s2 := by have := apart_mix hc hf hg hN.t0; have := hN.ts; grind
    have hgp : gapR ps (mixR c f t) (mixR c g t) ≤ wgap ps s2 := by have := gap_mix h hc hf hg hN.t0 t1; have := wgap_mono h hN.ts; grind
    generalize mixR c f t = one at *
    generalize mixR c g t = two at *
    have lo := x1.1
    have lt := x2.1
    obtain ⟨ap1, ab1⟩ := ap_bz x1 x2 h8 y1 y2 (by decide)
    have d1 := dots h (l := one) (by omega) y1 (by decide)
    have d2 := dots h (l := two) (by omega) y2 (by decide)
    have gb : Bz 4000 (gapR ps one two) := (bz_sub (dot_bz y2 (fun x hx => (h.sb x hx).1) (by omega) (by decide)).2 (dot_bz y1 (fun x hx => (h.fb x hx).1) (by omega) (by decide)).2).mono (by decide)
    refine (jg_tup rfl (jgs_cons (jg_name 8 nd) (jgs_cons (jg_name 9 nd) jgs_nil))) _ _ _ _ _ _ S8 hv _ fun σ9 S9 _ _ => ?_
    have S9 : Sy K B M0 [some (.val (.ref a)), some (.dat (psD ps)), some (.dat (dR s2)), some (.dat (.int i)), o4, some (.dat (.int (ps.length : Int))), some (.dat (dR (wgap ps s2))), some (.dat (.tuple [rT (wOne ps s2), rT (wTwo ps s2)])), some (.dat (rT one)), some (.dat (rT two))] μ1 σ9 H8 := S9
    refine sy_when S9 (b := decide (s2 < apartR one two) || decide (wgap ps s2 < gapR ps one two)) (jt_or (jt_val (jd_call Wl (hr.mono (by decide)) (ja_cons (S9.at 2) (ja_cons (jd_call Wsa (hr.mono (by decide)) (ja_cons (S9.at 8) (ja_cons (S9.at 9) ja_nil)) rfl ⟨_, _, rfl, ap1.ba, ap1.bb, ap1.bd, rfl⟩) ja_nil)) rfl ⟨_, _, rfl, bs, ab1, rfl⟩))
      fun _ => jt_val (jd_call Wl (hr.mono (by decide)) (ja_cons (S9.at 6) (ja_cons (jd_call Wsg (hr.mono (by decide)) (ja_cons (S9.at 1) (ja_cons (jd_tup (ja_cons (S9.at 8) (ja_cons (S9.at 9) ja_nil))) ja_nil)) rfl ⟨ps, one, two, rfl, h, d1.1, d2.2, rfl⟩) ja_nil)) rfl ⟨_, _, rfl, bg, gb, rfl⟩)) (fun q => ?_) fun _ H10 S10 => ?_
    · rw [decide_eq_false (by grind), decide_eq_false (by grind)] at q; cases q
    · refine sy_when S10 (b := !true) (jt_not (jt_val (jd_call Wsame (hr.mono (by decide)) (ja_cons (Jd.is (d' := .list (List.replicate (2 : Int).toNat (dR (apartR one two)))) (jd_lst (ja_cons (jd_callX Wa (hr.mono (by decide)) (ja_cons (S10.at 8) (ja_cons (S10.at 9) ja_nil)) rfl ⟨_, _, rfl, ap1, rfl⟩) (ja_cons (jd_callXK2 oka hma Fa.kp kba (hr.mono (by decide)) (S10.at 8) (S10.at 9) ⟨two, one, rfl, ap1.comm, rfl⟩) ja_nil))) (by rw [apart_comm (f := one) (g := two)]; rfl))
        (ja_cons (Jn.jd (jn_rep (ja_cons (jd_call Wsa (hr.mono (by decide)) (ja_cons (S10.at 8) (ja_cons (S10.at 9) ja_nil)) rfl ⟨_, _, rfl, ap1.ba, ap1.bb, ap1.bd, rfl⟩) ja_nil) jd_int (by decide) (by decide))) ja_nil)) rfl ⟨_, rfl, lay_lst.mpr fun x hx => ?_, ?_, rfl⟩))) (fun q => by cases q) fun _ H11 S11 => tB_nil ⟨_, _, ⟨(st.trans st1).le (by omega), _, _, _, _, rfl⟩, S11⟩
      · rw [List.eq_of_mem_replicate hx]; exact lay_dR.mono (by decide)
      · show sz (.list [dR _, dR _]) ≤ 80000
        show szs [dR _, dR _] + 1 ≤ 80000
        simp only [szs, sz_dR]; omega
  · rintro ρ' μ' σ' H' ⟨st, o3, o4, o8, o9, rfl⟩ S7
    refine sy_set 4 S7 (d := toldD ps s) (jd_callX Wr (hr.mono (by decide)) (ja_cons (S7.at 1) (ja_cons (S7.at 2) ja_nil)) rfl ⟨ps, s, rfl, h, hs, rfl⟩) (fun σ8 H8 S8 => ?_) nd
    have hN : isN (toldD ps s) = decide (wgap ps s ≤ 0) := by
      unfold toldD
      by_cases q : wgap ps s ≤ 0
      · rw [if_pos q, decide_eq_true q]; rfl
      · rw [if_neg q, decide_eq_false q]; rfl
    have fin : ∀ v H', Sy K B M0 [some (.dat (.bool true))] μ' [some v] H' → D'.rt v H' := fun v H' S' => k v _ μ' H' ⟨rfl, st.le (by decide)⟩ S'
    refine sy_when S8 (b := false) (Jt.is (jt_ne hu (jd_notN (S8.at 4)) (jd_call Wl (hr.mono (by decide)) (ja_cons (Jd.is (d' := dR 0) (jd_tup (ja_cons jd_int (ja_cons jd_int ja_nil))) rfl) (ja_cons (S8.at 6) ja_nil)) rfl ⟨0, _, rfl, bz_zero.mono (by decide), bg, rfl⟩) rfl rfl) ?_) (fun q => by cases q) fun _ H9 S9 => ?_
    · rw [hN]
      by_cases q : wgap ps s ≤ 0
      · rw [decide_eq_true q, decide_eq_false (by grind)]; rfl
      · rw [decide_eq_false q, decide_eq_true (by grind)]; rfl
    · refine sy_retE (S9.ev (d := .bool true) (jd_or (k := isN (toldD ps s)) (jd_isN (S9.at 4)) (fun _ => rfl) fun q => ?_) fun v H6 S6 _ pv => fin v H6 (S6.one pv))
      rw [hN] at q
      have hg : 0 < wgap ps s := by have := of_decide_eq_false q; grind
      have e : toldD ps s = .tuple [rT (tOne ps s), rT (tTwo ps s)] := if_neg (by grind)
      rw [e] at S9
      obtain ⟨s1, s2, p1, p2, gp, ap⟩ := told_facts h hs.lo hs.hi hg
      obtain ⟨k1, k2, k3, k4, k5, k6, k7, k8, k9⟩ := told_ok h hs hg
      refine jd_and (k := true) (jd_call Wsr (hr.mono (by decide)) (ja_cons (S9.at 1) (ja_cons (S9.at 4) ja_nil)) rfl ⟨ps, s, rfl, h, hs, hg, rfl⟩) (fun q => by cases q) fun _ => Jd.is (jd_not (jd_call Wl (hr.mono (by decide)) (ja_cons (S9.at 2) (ja_cons (jd_call Wsa (hr.mono (by decide)) (ja_cons (jd_ixT (n := 0) (d := rT (tOne ps s)) (S9.at 4) jd_int rfl rfl) (ja_cons (jd_ixT (n := 1) (d := rT (tTwo ps s)) (S9.at 4) jd_int rfl rfl) ja_nil)) rfl ⟨_, _, rfl, k1, k2, k3, rfl⟩) ja_nil)) rfl ⟨_, _, rfl, bs, k9, rfl⟩)) ?_
      rw [decide_eq_false (by grind)]; rfl
end K60

set_option maxHeartbeats 4000000
namespace K60
open PySem PySem.Spec PyProof.Rows L2 J Evl LamX
variable {P : Program} {w : World} {K : PySem.W.Frag} {mg : Str → Option Value} {base : Heap}
abbrev XL (P : Program) (w : World) (K : PySem.W.Frag) (mg : Str → Option Value) (base : Heap) (c : Addr) (A : Around) (outer : List Env) (s : Shared) (H : Hp) (E : XK) : Cx := bodyX P w K mg base N_law "law" s_law (He.ga K "law") (.ref c) A outer s H E
abbrev Tq (TP : Addr) : Addr × Mo := (TP, .tab (("law.<locals>." : Str) ++ "<lambda>"))
theorem drs_noTab {a l : Addr} {n : Nat} {μ : Mu} (h : Drs a l n μ) : ∀ p ∈ μ, noTab p.2 := by
  obtain ⟨gs, cs, r, t, _, _, _, rfl⟩ := h
  intro p hp
  unfold Dr at hp
  simp only [List.mem_cons, List.not_mem_nil, or_false] at hp
  rcases hp with rfl | rfl <;> exact True.intro
theorem cons_noTab {a : Addr} {vs : List Sv} {μ : Mu} (h : ∀ p ∈ μ, noTab p.2) : ∀ p ∈ ((a, Mo.lst vs) :: μ), noTab p.2 := fun p hp => by
  rcases List.mem_cons.mp hp with rfl | hp
  · exact True.intro
  · exact h p hp
def forBody : Stmt → List Stmt
  | .For _ _ b _ _ => b
  | _ => []
/-- the law's loop -/
abbrev loopB : List Stmt := forBody ((defBody s_law).getD 1 (.Pass ⟨0, 0, 0, 0⟩))
abbrev noH : Hp := fun _ => none
/-! ### wrong values -/
theorem sh_no {d : D} (h : dIsT d = false) : Sh d := fun l e => by rw [e] at h; cases h
theorem sh_few {l : List D} (h : l.length ≤ 10) : Sh (.tuple l) := fun m e => by cases e; omega
abbrev q2 (n m : Int) : D := .tuple [.int n, .int m]
def badL : List D := [.none, .list [q2 1 1], .tuple [q2 1 2], .tuple [q2 1 2, q2 1 3], .tuple [q2 3 2, q2 (-1) 2], .tuple [q2 1 2, .int 5]]
theorem askT_of {l : List D} (h : l.length ≤ 8) (h1 : ∀ x ∈ l, Sh x) (h2 : l.all isC = true → ∀ x ∈ l.map toR, Bz 5 x) : AskT (.tuple l) := fun m e => by
  cases e
  exact ⟨by omega, h1, fun q => (sum_bz (h2 q) (by rw [List.length_map]; exact h) (by decide)).1⟩
theorem bad_not : ∀ x ∈ badL, isTp x = false ∧ AskT x := by
  intro x hx
  have no : ∀ {d : D}, dIsT d = false → AskT d := fun h l e => by rw [e] at h; cases h
  have b2 : ∀ n m : Int, 0 < m → n.natAbs < 32 → m.natAbs < 32 → Bz 5 (toR (q2 n m)) := fun n m h h1 h2 => bz_of h (by decide) h1 h2
  unfold badL at hx
  simp only [List.mem_cons, List.not_mem_nil, or_false] at hx
  rcases hx with rfl | rfl | rfl | rfl | rfl | rfl
  · exact ⟨rfl, no rfl⟩
  · exact ⟨rfl, no rfl⟩
  · refine ⟨by decide +kernel, askT_of (by decide) (by simp only [List.mem_cons, List.not_mem_nil, or_false]; rintro x rfl; exact sh_few (by decide)) fun _ => ?_⟩
    simp only [List.map_cons, List.map_nil, List.mem_cons, List.not_mem_nil, or_false]
    rintro x rfl
    exact b2 _ _ (by decide) (by decide) (by decide)
  · refine ⟨by decide +kernel, askT_of (by decide) (by simp only [List.mem_cons, List.not_mem_nil, or_false]; rintro x (rfl | rfl) <;> exact sh_few (by decide)) fun _ => ?_⟩
    simp only [List.map_cons, List.map_nil, List.mem_cons, List.not_mem_nil, or_false]
    rintro x (rfl | rfl) <;> exact b2 _ _ (by decide) (by decide) (by decide)
  · refine ⟨by decide +kernel, askT_of (by decide) (by simp only [List.mem_cons, List.not_mem_nil, or_false]; rintro x (rfl | rfl) <;> exact sh_few (by decide)) fun _ => ?_⟩
    simp only [List.map_cons, List.map_nil, List.mem_cons, List.not_mem_nil, or_false]
    rintro x (rfl | rfl) <;> exact b2 _ _ (by decide) (by decide) (by decide)
  · refine ⟨by decide +kernel, askT_of (by decide) (by simp only [List.mem_cons, List.not_mem_nil, or_false]; rintro x (rfl | rfl); exact sh_few (by decide); exact sh_no rfl) fun q => ?_⟩
    exact absurd q (by decide +kernel)
def wrongL : List D := [.none, q2 3 2, q2 (-1) 2, q2 2 4, .int 1, .tuple [.int 1]]
theorem wrong_not : ∀ x ∈ wrongL, isC x = false ∧ Sh x := by
  intro x hx
  unfold wrongL at hx
  simp only [List.mem_cons, List.not_mem_nil, or_false] at hx
  rcases hx with rfl | rfl | rfl | rfl | rfl | rfl
  · exact ⟨rfl, sh_no rfl⟩
  · exact ⟨by decide +kernel, sh_few (by decide)⟩
  · exact ⟨by decide +kernel, sh_few (by decide)⟩
  · exact ⟨by decide +kernel, sh_few (by decide)⟩
  · exact ⟨rfl, sh_no rfl⟩
  · exact ⟨by decide +kernel, sh_few (by decide)⟩
def oddL (ps : Prs) (p : Rat × Rat) : List D := [.none, .tuple [], pD p, .list (ps.map pD), .tuple [.tuple [dR p.2, dR p.1]]]
theorem odd_not {ps : Prs} {p : Rat × Rat} (h : RsOk ps) (hp : p ∈ ps) : ∀ x ∈ oddL ps p, isRs x = false ∧ AskR x := by
  intro x hx
  have no : ∀ {d : D}, dIsT d = false → AskR d := fun h l e => by rw [e] at h; cases h
  obtain ⟨a, b, c, d, e⟩ := h.el p hp
  unfold oddL at hx
  simp only [List.mem_cons, List.not_mem_nil, or_false] at hx
  rcases hx with rfl | rfl | rfl | rfl | rfl
  · exact ⟨rfl, no rfl⟩
  · exact ⟨rfl, fun l e => by cases e; simp⟩
  · refine ⟨rfl, fun l e x hx l2 e2 y hy => ?_⟩
    cases e
    simp only [List.mem_cons, List.not_mem_nil, or_false] at hx
    have hi : ∃ i : Int, y = .int i := by
      rcases hx with rfl | rfl <;> (cases e2; simp only [List.mem_cons, List.not_mem_nil, or_false] at hy; rcases hy with rfl | rfl <;> exact ⟨_, rfl⟩)
    obtain ⟨i, rfl⟩ := hi
    exact ⟨sh_no rfl, fun r e => by cases e⟩
  · exact ⟨rfl, no rfl⟩
  · refine ⟨?_, fun l e x hx l2 e2 y hy => ?_⟩
    · show ((decide ((1 : Int) ≤ 1) && decide ((1 : Int) ≤ 8)) && ((isC (dR p.2) && isC (dR p.1) && decide (toR (dR p.1) < toR (dR p.2))) && true)) = false
      rw [toR_dR, toR_dR, decide_eq_false (by grind : ¬ p.1 < p.2)]
      simp
    · cases e
      simp only [List.mem_cons, List.not_mem_nil, or_false] at hx
      subst hx
      cases e2
      simp only [List.mem_cons, List.not_mem_nil, or_false] at hy
      rcases hy with rfl | rfl
      · exact sm_dR (e.mono (by decide))
      · exact sm_dR (d.mono (by decide))
/-! ### the tails -/
theorem jd_q {X : Cx} {M : List Addr} {σ : L2.St} {H : Hp} {n m : Int} {k1 k2 k3 : Nat} {p1 p2 p3 : Pos} (hs1 : starEach [.Constant (.int n) k1 p1, .Constant (.int m) k2 p2] X.env = (false, eval (.Constant (.int n) k1 p1) X.env) :: starEach [.Constant (.int m) k2 p2] X.env := by rfl)
    (hs2 : starEach [.Constant (.int m) k2 p2] X.env = (false, eval (.Constant (.int m) k2 p2) X.env) :: starEach [] X.env := by rfl) : Jd X M (.Tuple [.Constant (.int n) k1 p1, .Constant (.int m) k2 p2] k3 p3) σ H (q2 n m) := jd_tup (ja_cons jd_int (ja_cons jd_int ja_nil hs2) hs1)
theorem jd_qn {X : Cx} {M : List Addr} {σ : L2.St} {H : Hp} {n m : Int} {k1 k2 k3 : Nat} {p0 p1 p2 p3 : Pos} (hs1 : starEach [.UnaryOp .USub (.Constant (.int n) k1 p1) p0, .Constant (.int m) k2 p2] X.env = (false, eval (.UnaryOp .USub (.Constant (.int n) k1 p1) p0) X.env) :: starEach [.Constant (.int m) k2 p2] X.env := by rfl)
    (hs2 : starEach [.Constant (.int m) k2 p2] X.env = (false, eval (.Constant (.int m) k2 p2) X.env) :: starEach [] X.env := by rfl) : Jd X M (.Tuple [.UnaryOp .USub (.Constant (.int n) k1 p1) p0, .Constant (.int m) k2 p2] k3 p3) σ H (q2 (-n) m) := jd_tup (ja_cons (jd_neg jd_int) (ja_cons jd_int ja_nil hs2) hs1)
theorem dR_one : dR 1 = q2 1 1 := rfl
theorem sh_one : ShL 1 [(1 : Rat)] := ⟨rfl, by simp only [List.mem_cons, List.not_mem_nil, or_false]; rintro x rfl; decide, by decide +kernel⟩
theorem sh_two : ShL 2 [(1 / 2 : Rat), 1 / 2] := ⟨rfl, by simp only [List.mem_cons, List.not_mem_nil, or_false]; rintro x (rfl | rfl) <;> decide +kernel, by decide +kernel⟩
theorem ask_one : AskT (.tuple [q2 1 1]) := askT_rT sh_one (by decide) (sum_bz (b := 2) (by simp only [List.mem_cons, List.not_mem_nil, or_false]; rintro x rfl; exact bz_one.mono (by decide)) (by decide) (by decide)).1
theorem ask_two : AskT (.tuple [q2 1 2, q2 1 2]) := by
  have := askT_rT sh_two (by decide) (sum_bz (b := 2) (by simp only [List.mem_cons, List.not_mem_nil, or_false]; rintro x (rfl | rfl) <;> exact bz_half) (by decide) (by decide)).1
  unfold rT at this
  simp only [List.map_cons, List.map_nil, half_dR] at this
  exact this
theorem is_one : isTp (.tuple [q2 1 1]) = true := sh_one.isT
theorem is_two : isTp (.tuple [q2 1 2, q2 1 2]) = true := by
  have := sh_two.isT
  unfold rT at this
  simp only [List.map_cons, List.map_nil, half_dR] at this
  exact this
/-! ### long lists, deep ones -/
def notSt : Expr → Bool
  | .Starred .. => false
  | _ => true
theorem sE (e : Expr) (es : List Expr) (env : Env) (h : notSt e = true) : starEach (e :: es) env = (false, eval e env) :: starEach es env := by
  cases e <;> first | rfl | cases h
theorem ja_cc {X : Cx} {M : List Addr} {σ : L2.St} {H : Hp} {e : Expr} {es : List Expr} {d : D} {ds : List D} (ha : Jd X M e σ H d) (hr : Ja X M es σ H ds) (h : notSt e = true := by rfl) : Ja X M (e :: es) σ H (d :: ds) := ja_cons ha hr (sE _ _ _ h)
theorem sx_pickC {X : Cx} {B H : Hp} {M0 : List Addr} {ρ : Ro} {μD μ2 : Mu} {σ : L2.St} {ts : List Sv} {vs : List V} {a l : Addr} {n : Nat} {e1 e2 : Expr} {p pos : Pos} {xs : List D} (S : Sx X.K B M0 ρ (μD ++ μ2) σ ts vs H) (W : Fd CX0 X.prog X.w X.K X.mg X.base 3 "_law_pick" ["state", "some"] (spM X.K 2 PreP RP noF)) (hr : Room 3 X.A) (hD : Drs a l n μD) (hn : n < 2 ^ 30) (ha : Js X (adr M0 (μD ++ μ2)) e1 σ H (.val (.ref a))) (hb : Js X (adr M0 (μD ++ μ2)) e2 σ H (.dat (.list xs))) (h0 : 0 < xs.length) (h1 : xs.length ≤ 1000) {Q : VK}
    (k : ∀ v x μ' H', x ∈ xs → Stp 1 μD μ' → Sx X.K B M0 ρ (μ' ++ μ2) σ (ts ++ [.dat x]) (vs ++ [v]) H' → Q v H') (hg : Gl X "_law_pick" := by rfl) (hs1 : notSt e1 = true := by rfl) (hs2 : notSt e2 = true := by rfl) :
    tW X (.Call (.Name "_law_pick" p) [e1, e2] [] pos) σ H Q :=
  sx_pick S W hr hD hn ha hb h0 h1 k hg (sE _ _ _ hs1) (sE _ _ _ hs2) (by rw [sE e2 [] X.env hs2]; rfl)
/-! ### the law's lists of wrong values -/
def argOf : Stmt → Nat → Expr
  | .Assign _ (.Call _ es _ _) _, i => es.getD i (.Constant .none 0 ⟨0, 0, 0, 0⟩)
  | _, _ => .Constant .none 0 ⟨0, 0, 0, 0⟩
def argOf2 : Stmt → Nat → Expr
  | .Assign _ (.Tuple es _ _) _, i => match es.getD i (.Constant .none 0 ⟨0, 0, 0, 0⟩) with
    | .Call _ as _ _ => as.getD 1 (.Constant .none 0 ⟨0, 0, 0, 0⟩)
    | _ => .Constant .none 0 ⟨0, 0, 0, 0⟩
  | _, _ => .Constant .none 0 ⟨0, 0, 0, 0⟩
abbrev badE : Expr := argOf (loopB.getD 8 (.Pass ⟨0, 0, 0, 0⟩)) 1
abbrev oddE : Expr := argOf2 (loopB.getD 5 (.Pass ⟨0, 0, 0, 0⟩)) 0
abbrev wrongE : Expr := argOf2 (loopB.getD 5 (.Pass ⟨0, 0, 0, 0⟩)) 1
theorem jd_bad {c : Addr} {A : Around} {outer : List Env} {s : Shared} {H0 : Hp} {E : XK} {M : List Addr} {σ : L2.St} {H : Hp} : Jd (XL P w K mg base c A outer s H0 E) M badE σ H (.list badL) := by
  refine jd_lst ?_ ?_
  · refine ja_cc ?_ ?_ ?_
    · exact jd_non
    · refine ja_cc ?_ ?_ ?_
      · refine jd_lst ?_ ?_
        · refine ja_cc ?_ ?_ ?_
          · exact jd_q
          · exact ja_nil
          · rfl
        · show 1 ≤ 100000; omega
      · refine ja_cc ?_ ?_ ?_
        · refine jd_tup ?_ ?_
          · refine ja_cc ?_ ?_ ?_
            · exact jd_q
            · exact ja_nil
            · rfl
          · show 1 ≤ 100000; omega
        · refine ja_cc ?_ ?_ ?_
          · refine jd_tup ?_ ?_
            · refine ja_cc ?_ ?_ ?_
              · exact jd_q
              · refine ja_cc ?_ ?_ ?_
                · exact jd_q
                · exact ja_nil
                · rfl
              · rfl
            · show 2 ≤ 100000; omega
          · refine ja_cc ?_ ?_ ?_
            · refine jd_tup ?_ ?_
              · refine ja_cc ?_ ?_ ?_
                · exact jd_q
                · refine ja_cc ?_ ?_ ?_
                  · exact jd_qn
                  · exact ja_nil
                  · rfl
                · rfl
              · show 2 ≤ 100000; omega
            · refine ja_cc ?_ ?_ ?_
              · refine jd_tup ?_ ?_
                · refine ja_cc ?_ ?_ ?_
                  · exact jd_q
                  · refine ja_cc ?_ ?_ ?_
                    · exact jd_int
                    · exact ja_nil
                    · rfl
                  · rfl
                · show 2 ≤ 100000; omega
              · exact ja_nil
              · rfl
            · rfl
          · rfl
        · rfl
      · rfl
    · rfl
  · show 6 ≤ 100000; omega
theorem jd_wrong {c : Addr} {A : Around} {outer : List Env} {s : Shared} {H0 : Hp} {E : XK} {M : List Addr} {σ : L2.St} {H : Hp} : Jd (XL P w K mg base c A outer s H0 E) M wrongE σ H (.list wrongL) := by
  refine jd_lst ?_ ?_
  · refine ja_cc ?_ ?_ ?_
    · exact jd_non
    · refine ja_cc ?_ ?_ ?_
      · exact jd_q
      · refine ja_cc ?_ ?_ ?_
        · exact jd_qn
        · refine ja_cc ?_ ?_ ?_
          · exact jd_q
          · refine ja_cc ?_ ?_ ?_
            · exact jd_int
            · refine ja_cc ?_ ?_ ?_
              · refine jd_tup ?_ ?_
                · refine ja_cc ?_ ?_ ?_
                  · exact jd_int
                  · exact ja_nil
                  · rfl
                · show 1 ≤ 100000; omega
              · exact ja_nil
              · rfl
            · rfl
          · rfl
        · rfl
      · rfl
    · rfl
  · show 6 ≤ 100000; omega
theorem jd_odd (T : Tx K mg) {c : Addr} {A : Around} {outer : List Env} {s : Shared} {H0 : Hp} {E : XK} {M : List Addr} {σ : L2.St} {H : Hp} {ps : Prs} {p0 : Rat × Rat} {ps' : Prs} (hp : ps = p0 :: ps') {x : Str} (h : ∀ q, Jd (XL P w K mg base c A outer s H0 E) M (.Name "rates" q) σ H (psD ps)) : Jd (XL P w K mg base c A outer s H0 E) M oddE σ H (.list (oddL ps p0)) := by
  have z : ∀ {k q1 q2 q3}, Jd (XL P w K mg base c A outer s H0 E) M (.Subscript (.Name "rates" q1) (.Constant (.int 0) k q2) q3) σ H (pD p0) := jd_ixT (n := 0) (d := pD p0) (h _) jd_int rfl (by rw [hp]; rfl)
  refine jd_lst ?_ ?_
  · refine ja_cc ?_ ?_ ?_
    · exact jd_non
    · refine ja_cc ?_ ?_ ?_
      · refine jd_tup ?_ ?_
        · exact ja_nil
        · show 0 ≤ 100000; omega
      · refine ja_cc ?_ ?_ ?_
        · exact z
        · refine ja_cc ?_ ?_ ?_
          · exact jd_lstOf T.n_list (h _) (.inr rfl)
          · refine ja_cc ?_ ?_ ?_
            · refine jd_tup ?_ ?_
              · refine ja_cc ?_ ?_ ?_
                · exact jd_revT (ds := [dR p0.1, dR p0.2]) z
                · exact ja_nil
                · rfl
              · show 1 ≤ 100000; omega
            · exact ja_nil
            · rfl
          · rfl
        · rfl
      · rfl
    · rfl
  · show 5 ≤ 100000; omega
end K60

set_option maxHeartbeats 4000000
namespace K60
open PySem PySem.Spec PyProof.Rows L2 J Evl LamX
variable {P : Program} {w : World} {K : PySem.W.Frag} {mg : Str → Option Value} {base : Heap}
theorem law_tail3 (T : Tx K mg) {c TP : Addr} {A : Around} {outer : List Env} {s : Shared} {H0 : Hp} {E : XK} (TB : TabB base mg c TP) (hr : Room 12 (XL P w K mg base c A outer s H0 E).A) {a l : Addr} {n : Nat} {μ1 : Mu} (hD1 : Drs a l n μ1) {ps : Prs} {d0 x : D} {o2 o4 o6 o7 o8 o9 o10 : Option Sv} {σ1 : L2.St} {H1 : Hp} {D' : Ends} (hp : isTp x = false) (hask : AskT x) (S1 : Sy K noH [] [some (.dat d0), some (.val (.ref a)), o2, some (.dat (psD ps)), o4, some (.dat x), o6, o7, o8, o9, o10] ([Tq TP] ++ μ1) σ1 H1)
    (fin : ∀ σ' H', Sy K noH [] [some (.dat d0), some (.val (.ref a)), o2, some (.dat (psD ps)), o4, some (.dat x), o6, o7, o8, o9, o10] ([Tq TP] ++ μ1) σ' H' → D'.nx σ' H') :
    tB (XL P w K mg base c A outer s H0 E) (loopB.drop 9) D' σ1 H1 := by
  have W := fd_apart (P := P) (w := w) (base := base) T
  obtain ⟨fdc, Fc, hmc⟩ := T.f_law_caught
  refine tB_if (tT_not (tT_val (jm_isE (call_isV T.e_BadShares) T.n_isinstance T.g_BadShares (jm_caughtP (k := 9) (g := He.ga K "_law_caught") (st := s_law_caught) (μ := μ1) (P := TP) S1 (drs_noTab hD1) Fc hmc (fun _ _ _ _ _ _ us hl => match us, hl with | [_], _ => rfl) sc_law_caught (.inl rfl) rfl T.g_JudgeError (by decide) rfl rfl (by decide) (by decide) (by decide) (by decide) TB rfl (hr.mono (by decide)) (lamS_by (by rfl))
    (fun cls => cls = .ref (He.ga K "BadShares")) (fun A' outer' s' H0' f' c' H2 E' hr' S2 hE' => ?_) fun cls v H2 hc he S2 hv => ?_))))
  · exact jx_call (X := lamCx (XL P w K mg base c A outer s H0 E) A' outer' s' H0' E' _ f' c') W (hr'.mono (by decide)) (takes_of rfl rfl rfl rfl) S2.all (ja_cons (X := lamCx (XL P w K mg base c A outer s H0 E) A' outer' s' H0' E' _ f' c') (Sy.at (X := lamCx (XL P w K mg base c A outer s H0 E) A' outer' s' H0' E' _ f' c') S2 5) (ja_cons (X := lamCx (XL P w K mg base c A outer s H0 E) A' outer' s' H0' E' _ f' c') (Sy.at (X := lamCx (XL P w K mg base c A outer s H0 E) A' outer' s' H0' E' _ f' c') S2 5) (ja_nil (X := lamCx (XL P w K mg base c A outer s H0 E) A' outer' s' H0' E' _ f' c')))) rfl (.inl ⟨x, x, rfl, hask, hp, rfl⟩) fun H' x3 => hE' _ H' rfl T.j_BadShares (S2.ex x3)
  · subst hc
    obtain ⟨b, rfl, hb⟩ := hv
    refine ⟨b, .ref _, .ref _, true, rfl, hid_le _ _ hb, fun u h => h, T.s_BadShares, true, rfl, ?_⟩
    show (if (!true) = true then _ else _)
    rw [if_neg (by decide)]
    refine tB_nil ?_
    refine tB_if (tT_not (tT_val (jm_isE (call_isV T.e_BadShares) T.n_isinstance T.g_BadShares (jm_caughtP (k := 9) (g := He.ga K "_law_caught") (st := s_law_caught) (μ := μ1) (P := TP) S2 (drs_noTab hD1) Fc hmc (fun _ _ _ _ _ _ us hl => match us, hl with | [_], _ => rfl) sc_law_caught (.inl rfl) rfl T.g_JudgeError (by decide) rfl rfl (by decide) (by decide) (by decide) (by decide) TB rfl (hr.mono (by decide)) (lamS_by (by rfl))
      (fun cls => cls = .ref (He.ga K "BadShares")) (fun A' outer' s' H0' f' c' H2 E' hr' S2 hE' => ?_) fun cls v H2 hc he S2 hv => ?_))))
    · exact jx_call (X := lamCx (XL P w K mg base c A outer s H0 E) A' outer' s' H0' E' _ f' c') W (hr'.mono (by decide)) (takes_of rfl rfl rfl rfl) S2.all (ja_cons (X := lamCx (XL P w K mg base c A outer s H0 E) A' outer' s' H0' E' _ f' c') (jd_tup (X := lamCx (XL P w K mg base c A outer s H0 E) A' outer' s' H0' E' _ f' c') (ja_cons (X := lamCx (XL P w K mg base c A outer s H0 E) A' outer' s' H0' E' _ f' c') (jd_q (X := lamCx (XL P w K mg base c A outer s H0 E) A' outer' s' H0' E' _ f' c')) (ja_nil (X := lamCx (XL P w K mg base c A outer s H0 E) A' outer' s' H0' E' _ f' c')))) (ja_cons (X := lamCx (XL P w K mg base c A outer s H0 E) A' outer' s' H0' E' _ f' c') (Sy.at (X := lamCx (XL P w K mg base c A outer s H0 E) A' outer' s' H0' E' _ f' c') S2 5) (ja_nil (X := lamCx (XL P w K mg base c A outer s H0 E) A' outer' s' H0' E' _ f' c')))) rfl (.inr (.inl ⟨_, x, rfl, ask_one, is_one, hask, hp, rfl⟩)) fun H' x3 => hE' _ H' rfl T.j_BadShares (S2.ex x3)
    · subst hc
      obtain ⟨b, rfl, hb⟩ := hv
      refine ⟨b, .ref _, .ref _, true, rfl, hid_le _ _ hb, fun u h => h, T.s_BadShares, true, rfl, ?_⟩
      show (if (!true) = true then _ else _)
      rw [if_neg (by decide)]
      refine tB_nil ?_
      refine tB_if (tT_not (tT_val (jm_isE (call_isV T.e_OtherLength) T.n_isinstance T.g_OtherLength (jm_caughtP (k := 9) (g := He.ga K "_law_caught") (st := s_law_caught) (μ := μ1) (P := TP) S2 (drs_noTab hD1) Fc hmc (fun _ _ _ _ _ _ us hl => match us, hl with | [_], _ => rfl) sc_law_caught (.inl rfl) rfl T.g_JudgeError (by decide) rfl rfl (by decide) (by decide) (by decide) (by decide) TB rfl (hr.mono (by decide)) (lamS_by (by rfl))
        (fun cls => cls = .ref (He.ga K "OtherLength")) (fun A' outer' s' H0' f' c' H2 E' hr' S2 hE' => ?_) fun cls v H2 hc he S2 hv => ?_))))
      · exact jx_call (X := lamCx (XL P w K mg base c A outer s H0 E) A' outer' s' H0' E' _ f' c') W (hr'.mono (by decide)) (takes_of rfl rfl rfl rfl) S2.all (ja_cons (X := lamCx (XL P w K mg base c A outer s H0 E) A' outer' s' H0' E' _ f' c') (jd_tup (X := lamCx (XL P w K mg base c A outer s H0 E) A' outer' s' H0' E' _ f' c') (ja_cons (X := lamCx (XL P w K mg base c A outer s H0 E) A' outer' s' H0' E' _ f' c') (jd_q (X := lamCx (XL P w K mg base c A outer s H0 E) A' outer' s' H0' E' _ f' c')) (ja_nil (X := lamCx (XL P w K mg base c A outer s H0 E) A' outer' s' H0' E' _ f' c')))) (ja_cons (X := lamCx (XL P w K mg base c A outer s H0 E) A' outer' s' H0' E' _ f' c') (jd_tup (X := lamCx (XL P w K mg base c A outer s H0 E) A' outer' s' H0' E' _ f' c') (ja_cons (X := lamCx (XL P w K mg base c A outer s H0 E) A' outer' s' H0' E' _ f' c') (jd_q (X := lamCx (XL P w K mg base c A outer s H0 E) A' outer' s' H0' E' _ f' c')) (ja_cons (X := lamCx (XL P w K mg base c A outer s H0 E) A' outer' s' H0' E' _ f' c') (jd_q (X := lamCx (XL P w K mg base c A outer s H0 E) A' outer' s' H0' E' _ f' c')) (ja_nil (X := lamCx (XL P w K mg base c A outer s H0 E) A' outer' s' H0' E' _ f' c'))))) (ja_nil (X := lamCx (XL P w K mg base c A outer s H0 E) A' outer' s' H0' E' _ f' c')))) rfl (.inr (.inr ⟨_, _, rfl, ask_one, is_one, ask_two, is_two, by decide, rfl⟩)) fun H' x3 => hE' _ H' rfl T.j_OtherLength (S2.ex x3)
      · subst hc
        obtain ⟨b, rfl, hb⟩ := hv
        refine ⟨b, .ref _, .ref _, true, rfl, hid_le _ _ hb, fun u h => h, T.s_OtherLength, true, rfl, ?_⟩
        show (if (!true) = true then _ else _)
        rw [if_neg (by decide)]
        refine tB_nil ?_
        exact tB_nil (fin _ _ S2)
end K60

set_option maxHeartbeats 4000000
namespace K60
open PySem PySem.Spec PyProof.Rows L2 J Evl LamX
variable {P : Program} {w : World} {K : PySem.W.Frag} {mg : Str → Option Value} {base : Heap}
theorem law_tail2 (T : Tx K mg) {c TP : Addr} {A : Around} {outer : List Env} {s : Shared} {H0 : Hp} {E : XK} (TB : TabB base mg c TP) (hr : Room 12 (XL P w K mg base c A outer s H0 E).A) {a l : Addr} {n : Nat} {μ1 : Mu} (hD1 : Drs a l n μ1) (hn : n < 2 ^ 27) {ps : Prs} {d0 y : D} {o2 o4 o5 o6 o7 o9 o10 : Option Sv} {σ1 : L2.St} {H1 : Hp} {D' : Ends} (hp : isRs y = false) (hask : AskR y) (S1 : Sy K noH [] [some (.dat d0), some (.val (.ref a)), o2, some (.dat (psD ps)), o4, o5, o6, o7, some (.dat y), o9, o10] ([Tq TP] ++ μ1) σ1 H1)
    (fin : ∀ μ2 x σ' H', Drs a l (n + 1) μ2 → Sy K noH [] [some (.dat d0), some (.val (.ref a)), o2, some (.dat (psD ps)), o4, some (.dat x), o6, o7, some (.dat y), o9, o10] (μ2 ++ [Tq TP]) σ' H' → D'.nx σ' H') :
    tB (XL P w K mg base c A outer s H0 E) (loopB.drop 7) D' σ1 H1 := by
  have W := fd_least_unlike (P := P) (w := w) (base := base) T
  have Wp := fd_law_pick (P := P) (w := w) (base := base) T
  have nd := sc_law.nd
  obtain ⟨fdc, Fc, hmc⟩ := T.f_law_caught
  refine tB_if (tT_not (tT_val (jm_isE (call_isV T.e_BadRates) T.n_isinstance T.g_BadRates (jm_caughtP (k := 9) (g := He.ga K "_law_caught") (st := s_law_caught) (μ := μ1) (P := TP) S1 (drs_noTab hD1) Fc hmc (fun _ _ _ _ _ _ us hl => match us, hl with | [_], _ => rfl) sc_law_caught (.inl rfl) rfl T.g_JudgeError (by decide) rfl rfl (by decide) (by decide) (by decide) (by decide) TB rfl (hr.mono (by decide)) (lamS_by (by rfl))
    (fun cls => cls = .ref (He.ga K "BadRates")) (fun A' outer' s' H0' f' c' H2 E' hr' S2 hE' => ?_) fun cls v H2 hc he S2 hv => ?_))))
  · exact jx_call (X := lamCx (XL P w K mg base c A outer s H0 E) A' outer' s' H0' E' _ f' c') W (hr'.mono (by decide)) (takes_of rfl rfl rfl rfl) S2.all (ja_cons (X := lamCx (XL P w K mg base c A outer s H0 E) A' outer' s' H0' E' _ f' c') (Sy.at (X := lamCx (XL P w K mg base c A outer s H0 E) A' outer' s' H0' E' _ f' c') S2 8) (ja_nil (X := lamCx (XL P w K mg base c A outer s H0 E) A' outer' s' H0' E' _ f' c'))) rfl (⟨y, rfl, hask, hp, rfl⟩) fun H' x3 => hE' _ H' rfl T.j_BadRates (S2.ex x3)
  · subst hc
    obtain ⟨b, rfl, hb⟩ := hv
    refine ⟨b, .ref _, .ref _, true, rfl, hid_le _ _ hb, fun u h => h, T.s_BadRates, true, rfl, ?_⟩
    show (if (!true) = true then _ else _)
    rw [if_neg (by decide)]
    refine tB_nil ?_
    have S3 : Sy K noH [] [some (.dat d0), some (.val (.ref a)), o2, some (.dat (psD ps)), o4, o5, o6, o7, some (.dat y), o9, o10] (μ1 ++ [Tq TP]) σ1 H2 := S2.perm (List.perm_append_comm (l₁ := μ1) (l₂ := [Tq TP]))
    have ol : badL.length = 6 := rfl
    refine sy_setE 5 ?_ nd (hs := by kernel_rfl)
    refine sx_pickC (X := (XL P w K mg base c A outer s H0 E)) (ts := []) (vs := []) (μD := μ1) (μ2 := [Tq TP]) (xs := badL) S3.sx Wp (hr.mono (by decide)) hD1 (by omega) ?_ ?_ (by rw [ol]; decide) (by rw [ol]; decide) (fun v x μ3 H3 hx st S4 => ?_) rfl rfl rfl
    · exact (Sy.atV (X := (XL P w K mg base c A outer s H0 E)) S3 1).js
    · refine Jd.js (d := .list badL) ?_
      refine jd_lst ?_ ?_
      · refine ja_cc ?_ ?_ ?_
        · exact jd_non
        · refine ja_cc ?_ ?_ ?_
          · refine jd_lst ?_ ?_
            · refine ja_cc ?_ ?_ ?_
              · exact jd_q
              · exact ja_nil
              · rfl
            · show 1 ≤ 100000; omega
          · refine ja_cc ?_ ?_ ?_
            · refine jd_tup ?_ ?_
              · refine ja_cc ?_ ?_ ?_
                · exact jd_q
                · exact ja_nil
                · rfl
              · show 1 ≤ 100000; omega
            · refine ja_cc ?_ ?_ ?_
              · refine jd_tup ?_ ?_
                · refine ja_cc ?_ ?_ ?_
                  · exact jd_q
                  · refine ja_cc ?_ ?_ ?_
                    · exact jd_q
                    · exact ja_nil
                    · rfl
                  · rfl
                · show 2 ≤ 100000; omega
              · refine ja_cc ?_ ?_ ?_
                · refine jd_tup ?_ ?_
                  · refine ja_cc ?_ ?_ ?_
                    · exact jd_q
                    · refine ja_cc ?_ ?_ ?_
                      · exact jd_qn
                      · exact ja_nil
                      · rfl
                    · rfl
                  · show 2 ≤ 100000; omega
                · refine ja_cc ?_ ?_ ?_
                  · refine jd_tup ?_ ?_
                    · refine ja_cc ?_ ?_ ?_
                      · exact jd_q
                      · refine ja_cc ?_ ?_ ?_
                        · exact jd_int
                        · exact ja_nil
                        · rfl
                      · rfl
                    · show 2 ≤ 100000; omega
                  · exact ja_nil
                  · rfl
                · rfl
              · rfl
            · rfl
          · rfl
        · rfl
      · show 6 ≤ 100000; omega
    · have hvs := S4.vals
      cases hvs with | cons pv _ =>
      have S5 := S4.base.set 5 (s := .dat x) (v := v) pv
      have S5 : Sy K noH [] [some (.dat d0), some (.val (.ref a)), o2, some (.dat (psD ps)), o4, some (.dat x), o6, o7, some (.dat y), o9, o10] ([Tq TP] ++ μ3) _ H3 := S5.perm (List.perm_append_comm (l₁ := [Tq TP]) (l₂ := μ3))
      have hD3 := st _ _ _ hD1
      obtain ⟨hp2, ha2⟩ := bad_not x hx
      exact law_tail3 T TB hr hD3 hp2 ha2 S5 fun σ' H' S6 => fin μ3 x σ' H' hD3 (S6.perm (List.perm_append_comm (l₁ := μ3) (l₂ := [Tq TP])))
end K60

set_option maxHeartbeats 4000000
namespace K60
open PySem PySem.Spec PyProof.Rows L2 J Evl LamX
variable {P : Program} {w : World} {K : PySem.W.Frag} {mg : Str → Option Value} {base : Heap}
/-- a function that refuses wrong rates and a wrong slack -/
def AskF (P : Program) (w : World) (K : PySem.W.Frag) (mg : Str → Option Value) (base : Heap) (v : V) : Prop := ∃ (f : Addr) (fd : FuncData) (k : Nat) (R : List D → D → Prop), v = .ref f ∧ k ≤ 9 ∧ FnOk P w K mg base (CX P w) k f fd ["rates", "slack"] (spX K 2 R (FlW K)) ∧ Binds K fd ["rates", "slack"] [] ∧ PySem.W.keepIn K (.ref f) = true
theorem law_tail1 (T : Tx K mg) {c TP : Addr} {A : Around} {outer : List Env} {s : Shared} {H0 : Hp} {E : XK} (TB : TabB base mg c TP) (hr : Room 12 (XL P w K mg base c A outer s H0 E).A) {a l : Addr} {n : Nat} {μ1 : Mu} (hD1 : Drs a l n μ1) (hn : n < 2 ^ 27) {ps : Prs} (hps : RsOk ps) {d0 y z : D} {o2 o4 o5 o6 o7 o10 : Option Sv} {σ1 : L2.St} {H1 : Hp} {D' : Ends} (hp : isRs y = false) (hask : AskR y) (hz : isC z = false) (hzs : Sh z) (S1 : Sy K noH [] [some (.dat d0), some (.val (.ref a)), o2, some (.dat (psD ps)), o4, o5, o6, o7, some (.dat y), some (.dat z), o10] ([Tq TP] ++ μ1) σ1 H1)
    (fin : ∀ μ2 o4 x σ' H', Drs a l (n + 1) μ2 → Sy K noH [] [some (.dat d0), some (.val (.ref a)), o2, some (.dat (psD ps)), o4, some (.dat x), o6, o7, some (.dat y), some (.dat z), o10] (μ2 ++ [Tq TP]) σ' H' → D'.nx σ' H') :
    tB (XL P w K mg base c A outer s H0 E) (loopB.drop 6) D' σ1 H1 := by
  obtain ⟨fdc, Fc, hmc⟩ := T.f_law_caught
  have nd := sc_law.nd
  obtain ⟨f1, ok1, F1, m1⟩ := ok_widest_gap (P := P) (w := w) (base := base) T
  obtain ⟨f2, ok2, F2, m2⟩ := ok_gap_shares (P := P) (w := w) (base := base) T
  obtain ⟨f3, ok3, F3, m3⟩ := ok_nearly_reversing (P := P) (w := w) (base := base) T
  have hall : ∀ v ∈ [V.ref (He.ga K "widest_gap"), V.ref (He.ga K "gap_shares"), V.ref (He.ga K "nearly_reversing")], AskF P w K mg base v := fun v hv => by
    simp only [List.mem_cons, List.not_mem_nil, or_false] at hv
    rcases hv with rfl | rfl | rfl
    · exact ⟨_, f1, 7, _, rfl, by decide, ok1, F1.bindsN fun _ _ _ _ _ _ us hl => match us, hl with | [_, _], _ => rfl, F1.kp⟩
    · exact ⟨_, f2, 7, _, rfl, by decide, ok2, F2.bindsN fun _ _ _ _ _ _ us hl => match us, hl with | [_, _], _ => rfl, F2.kp⟩
    · exact ⟨_, f3, 8, _, rfl, by decide, ok3, F3.bindsN fun _ _ _ _ _ _ us hl => match us, hl with | [_, _], _ => rfl, F3.kp⟩
  refine sy_forVO (vs := [V.ref (He.ga K "widest_gap"), V.ref (He.ga K "gap_shares"), V.ref (He.ga K "nearly_reversing")]) 4 S1 (jva_cons (jv_glob m1 rfl) (jva_cons (jv_glob m2 rfl) (jva_cons (jv_glob m3 rfl) jva_nil))) (fun i ρ' μ' => μ' = [Tq TP] ++ μ1 ∧ ∃ o4, ρ' = [some (.dat d0), some (.val (.ref a)), o2, some (.dat (psD ps)), o4, o5, o6, o7, some (.dat y), some (.dat z), o10]) ⟨rfl, o4, rfl⟩ ?_ ?_ PassesOwn.never rfl nd (by simp)
  · rintro ad i v ρ' μ' σ' H' hv ⟨rfl, o4, rfl⟩ Sf
    obtain ⟨f, fd, k, R, rfl, hk, okf, bf, kf⟩ := hall v (List.mem_of_getElem? hv)
    generalize hvl : ([V.ref (He.ga K "widest_gap"), V.ref (He.ga K "gap_shares"), V.ref (He.ga K "nearly_reversing")].map Sv.val) = fns at *
    have Sf : Sy K noH [] [some (.dat d0), some (.val (.ref a)), o2, some (.dat (psD ps)), some (.val (.ref f)), o5, o6, o7, some (.dat y), some (.dat z), o10] ([Tq TP] ++ ((ad, .lst fns) :: μ1)) σ' H' := Sf.perm (List.Perm.swap _ _ _)
    refine tB_if (tT_not (tT_val (jm_isE (call_isV T.e_BadRates) T.n_isinstance T.g_BadRates (jm_caughtP (k := 9) (g := He.ga K "_law_caught") (st := s_law_caught) (μ := (ad, .lst fns) :: μ1) (P := TP) Sf (cons_noTab (drs_noTab hD1)) Fc hmc (fun _ _ _ _ _ _ us hl => match us, hl with | [_], _ => rfl) sc_law_caught (.inl rfl) rfl T.g_JudgeError (by decide) rfl rfl (by decide) (by decide) (by decide) (by decide) TB rfl (hr.mono (by decide)) (lamS_by (by rfl))
      (fun cls => cls = .ref (He.ga K "BadRates")) (fun A' outer' s' H0' f' c' H2 E' hr' S2 hE' => ?_) fun cls v H2 hc he S2 hv => ?_))))
    · exact jx_callL (X := lamCx (XL P w K mg base c A outer s H0 E) A' outer' s' H0' E' _ f' c') 4 okf bf kf (hr'.mono hk) (takes_of rfl rfl rfl rfl) S2.all (by obtain ⟨u, hu1, hu2⟩ := S2.sl 4 _ rfl; rw [hu1, show u = _ from hu2]) (ja_cons (X := lamCx (XL P w K mg base c A outer s H0 E) A' outer' s' H0' E' _ f' c') (Sy.at (X := lamCx (XL P w K mg base c A outer s H0 E) A' outer' s' H0' E' _ f' c') S2 8) (ja_cons (X := lamCx (XL P w K mg base c A outer s H0 E) A' outer' s' H0' E' _ f' c') (Sy.at (X := lamCx (XL P w K mg base c A outer s H0 E) A' outer' s' H0' E' _ f' c') S2 9) (ja_nil (X := lamCx (XL P w K mg base c A outer s H0 E) A' outer' s' H0' E' _ f' c')))) rfl (.inl ⟨y, z, rfl, hask, hp, rfl⟩) (fun H' x3 => hE' _ H' rfl T.j_BadRates (S2.ex x3)) (hv := .inr (.inr rfl))
    · subst hc
      obtain ⟨b, rfl, hb⟩ := hv
      refine ⟨b, .ref _, .ref _, true, rfl, hid_le _ _ hb, fun u h => h, T.s_BadRates, true, rfl, ?_⟩
      show (if (!true) = true then _ else _)
      rw [if_neg (by decide)]
      refine tB_nil ?_
      refine tB_if (tT_not (tT_val (jm_isE (call_isV T.e_BadSlack) T.n_isinstance T.g_BadSlack (jm_caughtP (k := 9) (g := He.ga K "_law_caught") (st := s_law_caught) (μ := (ad, .lst fns) :: μ1) (P := TP) S2 (cons_noTab (drs_noTab hD1)) Fc hmc (fun _ _ _ _ _ _ us hl => match us, hl with | [_], _ => rfl) sc_law_caught (.inl rfl) rfl T.g_JudgeError (by decide) rfl rfl (by decide) (by decide) (by decide) (by decide) TB rfl (hr.mono (by decide)) (lamS_by (by rfl))
        (fun cls => cls = .ref (He.ga K "BadSlack")) (fun A' outer' s' H0' f' c' H2 E' hr' S2 hE' => ?_) fun cls v H2 hc he S2 hv => ?_))))
      · exact jx_callL (X := lamCx (XL P w K mg base c A outer s H0 E) A' outer' s' H0' E' _ f' c') 4 okf bf kf (hr'.mono hk) (takes_of rfl rfl rfl rfl) S2.all (by obtain ⟨u, hu1, hu2⟩ := S2.sl 4 _ rfl; rw [hu1, show u = _ from hu2]) (ja_cons (X := lamCx (XL P w K mg base c A outer s H0 E) A' outer' s' H0' E' _ f' c') (Sy.at (X := lamCx (XL P w K mg base c A outer s H0 E) A' outer' s' H0' E' _ f' c') S2 3) (ja_cons (X := lamCx (XL P w K mg base c A outer s H0 E) A' outer' s' H0' E' _ f' c') (Sy.at (X := lamCx (XL P w K mg base c A outer s H0 E) A' outer' s' H0' E' _ f' c') S2 9) (ja_nil (X := lamCx (XL P w K mg base c A outer s H0 E) A' outer' s' H0' E' _ f' c')))) rfl (.inr ⟨ps, z, rfl, hps, hzs, hz, rfl⟩) (fun H' x3 => hE' _ H' rfl T.j_BadSlack (S2.ex x3)) (hv := .inr (.inr rfl))
      · subst hc
        obtain ⟨b, rfl, hb⟩ := hv
        refine ⟨b, .ref _, .ref _, true, rfl, hid_le _ _ hb, fun u h => h, T.s_BadSlack, true, rfl, ?_⟩
        show (if (!true) = true then _ else _)
        rw [if_neg (by decide)]
        refine tB_nil ?_
        exact tB_nil ⟨_, _, ⟨rfl, _, rfl⟩, S2.perm (List.Perm.swap _ _ _)⟩
  · rintro ρ' μ' σ' H' ⟨rfl, o4, rfl⟩ S2
    exact law_tail2 T TB hr hD1 hn hp hask S2 fun μ2 x σ' H' hD S' => fin μ2 o4 x σ' H' hD S'
end K60


set_option maxHeartbeats 4000000
namespace K60
open PySem PySem.Spec PyProof.Rows L2 J Evl LamX
variable {P : Program} {w : World} {K : PySem.W.Frag} {mg : Str → Option Value} {base : Heap}
/-- from the fifth statement of the loop on -/
theorem law_mid (T : Tx K mg) {c TP : Addr} {A : Around} {outer : List Env} {s : Shared} {H0 : Hp} {E : XK} (TB : TabB base mg c TP) (hr : Room 12 (XL P w K mg base c A outer s H0 E).A) {a l : Addr} {n : Nat} {μ1 : Mu} (hD1 : Drs a l n μ1) (hn : n < 2 ^ 26) {ps : Prs} (hps : RsOk ps) {sl : List Rat} (hsl : ∀ x ∈ sl, SlOk x) (hs6 : sl.length ≤ 6)
    {d0 : D} {o2 o4 o5 o6 o8 o9 o10 : Option Sv} {σ1 : L2.St} {H1 : Hp} {D' : Ends} (S1 : Sy K noH [] [some (.dat d0), some (.val (.ref a)), o2, some (.dat (psD ps)), o4, o5, o6, some (.dat (.list (sl.map dR))), o8, o9, o10] (μ1 ++ [Tq TP]) σ1 H1)
    (fin : ∀ μ2 o4 o5 o8 o9 σ' H', Drs a l (n + 4000) μ2 → Sy K noH [] [some (.dat d0), some (.val (.ref a)), o2, some (.dat (psD ps)), o4, o5, o6, some (.dat (.list (sl.map dR))), o8, o9, o10] (μ2 ++ [Tq TP]) σ' H' → D'.nx σ' H') :
    tB (XL P w K mg base c A outer s H0 E) (loopB.drop 4) D' σ1 H1 := by
  have Wp := fd_law_pick (P := P) (w := w) (base := base) T
  have Wr := fd_law_k60_right (P := P) (w := w) (base := base) T
  have nd := sc_law.nd
  have hu := hr.units
  have p1 := hps.l1
  obtain ⟨p0, ps', hpe⟩ : ∃ p0 ps', ps = p0 :: ps' := by
    cases ps with
    | nil => simp at p1
    | cons p q => exact ⟨p, q, rfl⟩
  have hp0 : p0 ∈ ps := by rw [hpe]; exact List.mem_cons_self
  refine tB_if (tT_neNil hu (tW_lc (own := [("slack", 10)]) (lcF_tree S1 (jw_lst (S1.at 7)) (fun d ρ => ρ.set 10 (some (.dat d))) (js := [10]) (by simp) (fun i μ' => ∃ μD, Drs a l (n + 500 * i) μD ∧ i ≤ 6 ∧ μ' = μD ++ [Tq TP]) ⟨μ1, hD1, by decide, rfl⟩ ?_ ?_ ?_) (blkOk_by (by rfl)) rfl nd))
  · rintro _ d ⟨s, H, C, cl, fp, rfl⟩ _
    exact jg_name 10 nd
  · rintro i d μ' _ B' M' σ' H' Q hd ⟨μD, hD, hi, rfl⟩ ⟨s, H, C, cl, fp, rfl⟩ S2 hQ
    rw [List.getElem?_map] at hd
    obtain ⟨x, hx, rfl⟩ := Option.map_eq_some_iff.mp hd
    have hil : i < sl.length := (List.getElem?_eq_some_iff.mp hx).1
    refine tT_not (tT_val (jm_call (μ1 := μD) (μ2 := [Tq TP]) S2 Wr (hr.mono (by decide)) (jsa_cons (S2.atV 1).js (jsa_cons (S2.at 3).js (jsa_cons (S2.at 10).js jsa_nil))) rfl ⟨a, l, _, ps, x, rfl, hps, hsl x (List.mem_of_getElem? hx), by omega, hD⟩ fun v s' μ2 H2 hR S3 hv => ?_))
    obtain ⟨rfl, st⟩ := hR
    exact ⟨true, dBl hv, hQ _ H2 ⟨μ2, (st _ _ _ hD).mono (by omega), by omega, rfl⟩ S3⟩
  · rintro ad μ' H2 ⟨μ2, hD, hi, rfl⟩ S2
    rw [List.length_map] at hi hD
    refine ⟨ad, noH, [], _, μ2 ++ [Tq TP], rfl, S2, fun H3 x3 => ?_⟩
    rw [if_neg (by decide)]
    refine tB_nil ?_
    have S3 := S2.drop1.ex x3
    have ol : (oddL ps p0).length = 5 := rfl
    refine sy_tup2 8 9 (tA_cons ?_) rfl nd (hs := by kernel_rfl) (hw := by kernel_rfl)
    have z : ∀ {k q1 q2 q3}, Jd (XL P w K mg base c A outer s H0 E) (adr [] (μ2 ++ [Tq TP])) (.Subscript (.Name "rates" q1) (.Constant (.int 0) k q2) q3) σ1 H3 (pD p0) := jd_ixT (n := 0) (d := pD p0) (Sy.at (X := (XL P w K mg base c A outer s H0 E)) S3 3) jd_int rfl (by rw [hpe]; rfl)
    refine sx_pickC (X := (XL P w K mg base c A outer s H0 E)) (ts := []) (vs := []) (μD := μ2) (μ2 := [Tq TP]) (xs := oddL ps p0) S3.sx Wp (hr.mono (by decide)) hD (by omega) ?_ ?_ (by rw [ol]; decide) (by rw [ol]; decide) (fun v1 y μ3 H4 hy st3 S4 => tA_cons ?_) rfl rfl rfl
    · exact (Sy.atV (X := (XL P w K mg base c A outer s H0 E)) S3 1).js
    · refine Jd.js (d := .list (oddL ps p0)) ?_
      refine jd_lst ?_ ?_
      · refine ja_cc ?_ ?_ ?_
        · exact jd_non
        · refine ja_cc ?_ ?_ ?_
          · refine jd_tup ?_ ?_
            · exact ja_nil
            · show 0 ≤ 100000; omega
          · refine ja_cc ?_ ?_ ?_
            · exact z
            · refine ja_cc ?_ ?_ ?_
              · exact jd_lstOf T.n_list (Sy.at (X := (XL P w K mg base c A outer s H0 E)) S3 3) (.inr rfl)
              · refine ja_cc ?_ ?_ ?_
                · refine jd_tup ?_ ?_
                  · refine ja_cc ?_ ?_ ?_
                    · exact jd_revT (ds := [dR p0.1, dR p0.2]) z
                    · exact ja_nil
                    · rfl
                  · show 1 ≤ 100000; omega
                · exact ja_nil
                · rfl
              · rfl
            · rfl
          · rfl
        · rfl
      · show 5 ≤ 100000; omega
    have hD3 := st3 _ _ _ hD
    have wl : wrongL.length = 6 := rfl
    refine sx_pickC (X := (XL P w K mg base c A outer s H0 E)) (μD := μ3) (μ2 := [Tq TP]) (xs := wrongL) S4 Wp (hr.mono (by decide)) hD3 (by omega) ?_ ?_ (by rw [wl]; decide) (by rw [wl]; decide) (fun v2 z μ4 H5 hz st4 S5 => tA_nil ⟨v1, v2, rfl, fun tq htq => ?_⟩) rfl rfl rfl
    · exact (Sy.atV (X := (XL P w K mg base c A outer s H0 E)) S4.base 1).js
    · refine Jd.js (d := .list wrongL) ?_
      refine jd_lst ?_ ?_
      · refine ja_cc ?_ ?_ ?_
        · exact jd_non
        · refine ja_cc ?_ ?_ ?_
          · exact jd_q
          · refine ja_cc ?_ ?_ ?_
            · exact jd_qn
            · refine ja_cc ?_ ?_ ?_
              · exact jd_q
              · refine ja_cc ?_ ?_ ?_
                · exact jd_int
                · refine ja_cc ?_ ?_ ?_
                  · refine jd_tup ?_ ?_
                    · refine ja_cc ?_ ?_ ?_
                      · exact jd_int
                      · exact ja_nil
                      · rfl
                    · show 1 ≤ 100000; omega
                  · exact ja_nil
                  · rfl
                · rfl
              · rfl
            · rfl
          · rfl
        · rfl
      · show 6 ≤ 100000; omega
    have hD4 := st4 _ _ _ hD3
    have hvs := S5.vals
    cases hvs with | cons q1 hvs => cases hvs with | cons q2 _ =>
    have S6 := ((S5.base.set 8 (s := .dat y) (v := v1) q1).set 9 (s := .dat z) (v := v2) q2).ex (Ex.new (o := .tup [v1, v2]) htq)
    have S6 : Sy K noH [] [some (.dat d0), some (.val (.ref a)), o2, some (.dat (psD ps)), o4, o5, o6, some (.dat (.list (sl.map dR))), some (.dat y), some (.dat z), o10] ([Tq TP] ++ μ4) _ _ := S6.perm (List.perm_append_comm (l₁ := [Tq TP]) (l₂ := μ4))
    obtain ⟨k1, k2⟩ := odd_not hps hp0 y hy
    obtain ⟨k3, k4⟩ := wrong_not z hz
    exact law_tail1 T TB hr hD4 (by omega) hps k1 k2 k3 k4 S6 fun μ5 o4 x σ' H' hD5 S7 => fin μ5 o4 _ _ _ σ' H' (hD5.mono (by omega)) S7
end K60

set_option maxHeartbeats 4000000
namespace K60
open PySem PySem.Spec PyProof.Rows L2 J Evl LamX
variable {P : Program} {w : World} {K : PySem.W.Frag} {mg : Str → Option Value} {base : Heap}
theorem sl_zero : SlOk 0 := ⟨by decide, by decide, bz_zero.mono (by decide)⟩
theorem sl_one : SlOk 1 := ⟨by decide, by decide, bz_one.mono (by decide)⟩
theorem lay_least {ps : Prs} : Lay 60 (leastD ps) := by
  unfold leastD
  split
  · exact lay_non
  · exact lay_dR.mono (by decide)
theorem sz_least {ps : Prs} : sz (leastD ps) ≤ 80000 := by
  unfold leastD
  split
  · show 1 ≤ 80000; omega
  · rw [sz_dR]; omega
theorem isN_least {ps : Prs} : isN (leastD ps) = decide (roomR ps ≤ 0) := by
  unfold leastD
  by_cases q : roomR ps ≤ 0
  · rw [if_pos q, decide_eq_true q]; rfl
  · rw [if_neg q, decide_eq_false q]; rfl
theorem isN_told {ps : Prs} {s : Rat} : isN (toldD ps s) = decide (wgap ps s ≤ 0) := by
  unfold toldD
  by_cases q : wgap ps s ≤ 0
  · rw [if_pos q, decide_eq_true q]; rfl
  · rw [if_neg q, decide_eq_false q]; rfl
theorem law_head (T : Tx K mg) {c TP : Addr} {A : Around} {outer : List Env} {s : Shared} {H0 : Hp} {E : XK} (TB : TabB base mg c TP) (hr : Room 12 (XL P w K mg base c A outer s H0 E).A) {a l : Addr} {n : Nat} {μ1 : Mu} (hD1 : Drs a l n μ1) (hn : n < 2 ^ 25)
    {d0 : D} {o2 o3 o4 o5 o6 o7 o8 o9 o10 : Option Sv} {σ1 : L2.St} {H1 : Hp} {D' : Ends} (S1 : Sy K noH [] [some (.dat d0), some (.val (.ref a)), o2, o3, o4, o5, o6, o7, o8, o9, o10] (μ1 ++ [Tq TP]) σ1 H1)
    (fin : ∀ μ2 o3 o4 o5 o6 o7 o8 o9 σ' H', Drs a l (n + 4100) μ2 → Sy K noH [] [some (.dat d0), some (.val (.ref a)), o2, o3, o4, o5, o6, o7, o8, o9, o10] (μ2 ++ [Tq TP]) σ' H' → D'.nx σ' H') :
    tB (XL P w K mg base c A outer s H0 E) loopB D' σ1 H1 := by
  have Wps := fd_law_sr_pairs (P := P) (w := w) (base := base) T
  have Wch := fd_law_chance (P := P) (w := w) (base := base) T
  have Wsame := fd_law_same (P := P) (w := w) (base := base) T
  have Wg := fd_widest_gap (P := P) (w := w) (base := base) T
  have Wr := fd_nearly_reversing (P := P) (w := w) (base := base) T
  have Wlu := fd_least_unlike (P := P) (w := w) (base := base) T
  have Wl := fd_law_less (P := P) (w := w) (base := base) T
  have Wt := fd_law_times (P := P) (w := w) (base := base) T
  have Wm := fd_law_minus (P := P) (w := w) (base := base) T
  have Wa := fd_law_plus (P := P) (w := w) (base := base) T
  obtain ⟨fu, oku, Fu, hmu⟩ := ok_least_unlike (P := P) (w := w) (base := base) T
  obtain ⟨fr, okr, Fr2, hmr⟩ := ok_nearly_reversing (P := P) (w := w) (base := base) T
  have kbu : KBn K fu ["rates"] 0 ["rates"] (fun us ws => us ++ ws) (fun vs zs => vs ++ zs) := kbn_of Fu fun _ _ _ _ _ _ us ws h1 h2 => match us, ws, h1, h2 with | [], [_], _, _ => rfl
  have kbr : KBn K fr ["rates", "slack"] 0 ["slack", "rates"] (fun us ws => us ++ ws.reverse) (fun vs zs => vs ++ zs.reverse) := kbn_rev Fr2 fun _ _ _ _ _ _ ws h2 => match ws, h2 with | [_, _], _ => rfl
  have nd := sc_law.nd
  have hu := hr.units
  -- rates
  refine sy_setE 3 (jm_call (μ1 := μ1) (μ2 := [Tq TP]) S1 Wps (hr.mono (by decide)) (jsa_cons (S1.atV 1).js (jsa_cons jd_int.js jsa_nil)) rfl ⟨a, l, n, rfl, by omega, hD1⟩ fun v s' μ2 H2 hR S2 hv => ?_) nd
  obtain ⟨ps, h, rfl, st2⟩ := hR
  have hD2 := st2 _ _ _ hD1
  have S3 := S2.set 3 (s := .dat (psD ps)) (v := v) hv
  have S3 : Sy K noH [] [some (.dat d0), some (.val (.ref a)), o2, some (.dat (psD ps)), o4, o5, o6, o7, o8, o9, o10] (μ2 ++ [Tq TP]) (σ1.set 3 (some v)) H2 := S3
  generalize σ1.set 3 (some v) = σ3 at S3
  -- least, slacks
  refine sy_parE 6 7 (tA_cons (S3.sx.ev (s := .dat (leastD ps)) (Jd.js (jd_callX Wlu (hr.mono (by decide)) (ja_cons (S3.at 3) ja_nil) rfl ⟨ps, rfl, h, rfl⟩)) fun v1 H4 S4 => tA_cons (tW_lst (n := 0) (tA_cons (Sx.call (μ1 := μ2) (μ2 := [Tq TP]) S4 Wch (hr.mono (by decide)) (jsa_cons (S4.base.atV 1).js jsa_nil) rfl ⟨a, l, _, rfl, by omega, hD2⟩ fun v2 s2 μ3 H5 hR5 S5 => ?_))))) rfl nd (by decide) rfl
  obtain ⟨r, r0, r1, rb, rfl, st3⟩ := hR5
  have hD3 := st3 _ _ _ hD2
  refine tA_cons (S5.ev (s := .dat (dR 0)) (Jd.js (Jd.is (d' := dR 0) (jd_tup (ja_cons jd_int (ja_cons jd_int ja_nil))) rfl)) fun v3 H6 S6 => tA_cons (S6.ev (s := .dat (dR 1)) (Jd.js (Jd.is (d' := dR 1) (jd_tup (ja_cons jd_int (ja_cons jd_int ja_nil))) rfl)) fun v4 H7 S7 => tA_nil ⟨by simp, fun cl hcl => tA_nil ⟨v1, .ref cl, rfl, ?_⟩⟩))
  have S8 := Sx.lst (ts := [.dat (leastD ps)]) (vs := [v1]) (us := [.dat (dR r), .dat (dR 0), .dat (dR 1)]) (ws := [v2, v3, v4]) S7 rfl hcl
  have hvs := S8.vals
  cases hvs with | cons q1 _ =>
  have S9 := (S8.base.set 6 (s := .dat (leastD ps)) (v := v1) q1).set 7 (s := .val (.ref cl)) (v := .ref cl) rfl
  have S9 : Sy K noH [] [some (.dat d0), some (.val (.ref a)), o2, some (.dat (psD ps)), o4, o5, some (.dat (leastD ps)), some (.val (.ref cl)), o8, o9, o10] ((cl, .lst (([r, 0, 1].map dR).map .dat)) :: (μ3 ++ [Tq TP])) _ _ := S9
  have slr : SlOk r := ⟨r0, r1, rb⟩
  -- told alike by keyword; none just where the room is none
  refine sy_when S9 (b := !true || !PyData.eqv (.bool (isN (leastD ps))) (.bool (decide (wgap ps 1 ≤ 0)))) (jt_or (jt_not (jt_val (jd_call Wsame (hr.mono (by decide)) (ja_cons (jd_callXK oku hmu Fu.kp kbu (hr.mono (by decide)) (S9.at 3) ⟨ps, rfl, h, rfl⟩) (ja_cons (S9.at 6) ja_nil)) rfl ⟨_, rfl, lay_least, sz_least, rfl⟩)))
    fun _ => jt_ne hu (jd_isN (S9.at 6)) (Jd.is (jd_le (jd_ixT (n := 0) (jd_callX Wg (hr.mono (by decide)) (ja_cons (S9.at 3) (ja_cons (Jd.is (d' := dR 1) (jd_tup (ja_cons jd_int (ja_cons jd_int ja_nil))) rfl) ja_nil)) rfl ⟨ps, 1, rfl, h, sl_one, rfl⟩) jd_int rfl rfl) jd_int) (congrArg PyData.bool dec_nonpos)) rfl rfl) (fun q => ?_) fun _ H10 S10 => ?_
  · rw [isN_least, show wgap ps 1 = roomR ps by unfold wgap; grind] at q
    cases q2 : decide (roomR ps ≤ 0) <;> rw [q2] at q <;> cases q
  refine sy_when S10 (jt_notN (S10.at 6)) (fun q H11 S11 => ?_) fun q H11 S11 => ?_
  · -- a least
    rw [isN_least, Bool.not_eq_true'] at q
    have hroom := of_decide_eq_false q
    obtain ⟨t0, t1, tw, tb⟩ := least_facts h hroom
    have e : leastD ps = dR (leastU ps) := if_neg hroom
    rw [e] at S11
    have ug := up_gap h hroom
    have dg := dn_gap h hroom
    have uo := up_ok t0 t1 tb
    have dO := dn_ok t0 t1 tb
    generalize leastU ps = t at *
    have st : SlOk t := ⟨by grind, by grind, tb.mono (by decide)⟩
    have b4 : Bz 4000 t := tb.mono (by decide)
    have S11 : Sy K noH [] [some (.dat d0), some (.val (.ref a)), o2, some (.dat (psD ps)), o4, o5, some (.dat (dR t)), some (.val (.ref cl)), o8, o9, o10] ((cl, .lst (([r, 0, 1].map dR).map .dat)) :: (μ3 ++ [Tq TP])) _ H11 := S11
    refine sy_when S11 (b := !decide (0 < t) || (!decide (t < 1) || !decide (wgap ps t = 0))) (jt_or3 (jt_not (jt_val (jd_call Wl (hr.mono (by decide)) (ja_cons (Jd.is (d' := dR 0) (jd_tup (ja_cons jd_int (ja_cons jd_int ja_nil))) rfl) (ja_cons (S11.at 6) ja_nil)) rfl ⟨0, t, rfl, bz_zero.mono (by decide), b4, rfl⟩)))
      (fun _ => jt_not (jt_val (jd_call Wl (hr.mono (by decide)) (ja_cons (S11.at 6) (ja_cons (Jd.is (d' := dR 1) (jd_tup (ja_cons jd_int (ja_cons jd_int ja_nil))) rfl) ja_nil)) rfl ⟨t, 1, rfl, b4, bz_one.mono (by decide), rfl⟩)))
      fun _ _ => Jt.is (jt_ne hu (jd_callX Wg (hr.mono (by decide)) (ja_cons (S11.at 3) (ja_cons (S11.at 6) ja_nil)) rfl ⟨ps, t, rfl, h, st, rfl⟩) (Jd.is (d' := dR 0) (jd_tup (ja_cons jd_int (ja_cons jd_int ja_nil))) rfl) (lay_dR.shaped (by decide)) (lay_dR.shaped (by decide))) (by rw [eqv_dR])) (fun q => ?_) fun _ H12 S12 => ?_
    · rw [decide_eq_true t0, decide_eq_true t1, decide_eq_true tw] at q; cases q
    have b1 := bz_sub bz_one tb
    refine sy_setE 7 (S12.evN (ds := [r, 0, 1].map dR ++ [dR t, dR (upS t), dR (dnS t)]) (jn_catO S12 (S12.atV 7) (i := 0) rfl (jn_lst (ja_cons (S12.at 6) (ja_cons (jd_call Wa (hr.mono (by decide)) (ja_cons (S12.at 6) (ja_cons (jd_call Wt (hr.mono (by decide)) (ja_cons (Jd.is (d' := dR (1 / 9)) (jd_tup (ja_cons jd_int (ja_cons jd_int ja_nil))) ninth_dR.symm) (ja_cons (jd_call Wm (hr.mono (by decide)) (ja_cons (Jd.is (d' := dR 1) (jd_tup (ja_cons jd_int (ja_cons jd_int ja_nil))) rfl) (ja_cons (S12.at 6) ja_nil)) rfl ⟨1, t, rfl, bz_one.mono (by decide), b4, rfl⟩) ja_nil)) rfl ⟨_, _, rfl, bz_ninth.mono (by decide), b1.mono (by decide), rfl⟩) ja_nil)) rfl ⟨_, _, rfl, b4, (bz_mul bz_ninth b1).mono (by decide), rfl⟩)
      (ja_cons (jd_call Wt (hr.mono (by decide)) (ja_cons (Jd.is (d' := dR (8 / 9)) (jd_tup (ja_cons jd_int (ja_cons jd_int ja_nil))) eight_dR.symm) (ja_cons (S12.at 6) ja_nil)) rfl ⟨_, _, rfl, bz_eight.mono (by decide), b4, rfl⟩) ja_nil)))) (by simp)) fun c2 H13 S13 => ?_) nd
    have S14 := ((S13.set 7 (s := .val (.ref c2)) (v := .ref c2) rfl).frz 7 0 rfl rfl).drop1
    have S14 : Sy K noH [] [some (.dat d0), some (.val (.ref a)), o2, some (.dat (psD ps)), o4, o5, some (.dat (dR t)), some (.dat (.list ([r, 0, 1, t, upS t, dnS t].map dR))), o8, o9, o10] (μ3 ++ [Tq TP]) _ H13 := S14
    refine sy_when S14 (b := !isN (toldD ps t) || (isN (toldD ps (upS t)) || !isN (toldD ps (dnS t)))) (jt_or3 (jt_notN (jd_callX Wr (hr.mono (by decide)) (ja_cons (S14.at 3) (ja_cons (jd_ixL (n := 3) (d := dR t) (S14.at 7) jd_int rfl rfl) ja_nil)) rfl ⟨ps, t, rfl, h, st, rfl⟩))
      (fun _ => jt_isN (jd_callX Wr (hr.mono (by decide)) (ja_cons (S14.at 3) (ja_cons (jd_ixL (n := 4) (d := dR (upS t)) (S14.at 7) jd_int rfl rfl) ja_nil)) rfl ⟨ps, _, rfl, h, uo, rfl⟩))
      fun _ _ => jt_notN (jd_callXK2 okr hmr Fr2.kp kbr (hr.mono (by decide)) (jd_ixL (n := 5) (d := dR (dnS t)) (S14.at 7) jd_int rfl rfl) (S14.at 3) ⟨ps, _, rfl, h, dO, rfl⟩)) (fun q => ?_) fun _ H15 S15 => tB_nil ?_
    · rw [isN_told, isN_told, isN_told, decide_eq_true (by grind), decide_eq_false (by grind), decide_eq_true dg] at q; cases q
    · exact law_mid T TB hr hD3 (by omega) h (fun x hx => by
        simp only [List.mem_cons, List.not_mem_nil, or_false] at hx
        rcases hx with rfl | rfl | rfl | rfl | rfl | rfl
        · exact slr
        · exact sl_zero
        · exact sl_one
        · exact st
        · exact uo
        · exact dO) (by simp) S15 fun μ4 o4 o5 o8 o9 σ' H' hD S' => fin μ4 _ o4 o5 _ _ o8 o9 σ' H' (hD.mono (by omega)) S'
  · have S12 := S11.frz 7 0 rfl rfl
    have S12 : Sy K noH [] [some (.dat d0), some (.val (.ref a)), o2, some (.dat (psD ps)), o4, o5, some (.dat (leastD ps)), some (.dat (.list ([r, 0, 1].map dR))), o8, o9, o10] (μ3 ++ [Tq TP]) _ H11 := S12
    exact law_mid T TB hr hD3 (by omega) h (fun x hx => by
        simp only [List.mem_cons, List.not_mem_nil, or_false] at hx
        rcases hx with rfl | rfl | rfl
        · exact slr
        · exact sl_zero
        · exact sl_one) (by simp) S12 fun μ4 o4 o5 o8 o9 σ' H' hD S' => fin μ4 _ o4 o5 _ _ o8 o9 σ' H' (hD.mono (by omega)) S'
theorem ok_law_k60 (T : Tx K mg) {fd : FuncData} (F : FnP K "law" "law" s_law (He.ga K "law") fd) (TP : Addr) (TBh : ∀ c, fd.code = .ref c → TabB base mg c TP) : FnOk P w K mg base CX0 13 (He.ga K "law") fd ["script"] (spLaw K TP 63) := by
  have Wbegun := fd_law_begun (P := P) (w := w) (base := base) T
  have nd := sc_law.nd
  refine ok_law F sc_law TP TBh fun c A outer s H E sa ns D' TB hr hns S k => ?_
  refine sy_setE 1 (jm_call (μ1 := []) (μ2 := [Tq TP]) S Wbegun (hr.mono (by decide)) (jsa_cons (S.at 0).js jsa_nil) rfl ⟨ns, rfl, by omega, rfl⟩ fun v s' μ1 H1 hR S1 hv => ?_) nd
  obtain ⟨a, l, gs, cs, rfl, hg, rfl⟩ := hR
  have hv : v = .ref a := hv
  subst hv
  have S1 := S1.set 1 (s := .val (.ref a)) (v := .ref a) rfl
  have S1 : Sy K (fun _ => none) [] [some (.dat (.list (ns.map PyData.int))), some (.val (.ref a)), none, none, none, none, none, none, none, none, none] (Dr a l gs cs 0 0 ++ [Tq TP]) _ H1 := S1
  have hn0 : ((2 : Int) + (if 4 < (((ns.map PyData.int).length : Nat) : Int) then 4 else (((ns.map PyData.int).length : Nat) : Int))) ≤ 6 := by split <;> omega
  have hn1 : 0 ≤ ((2 : Int) + (if 4 < (((ns.map PyData.int).length : Nat) : Int) then 4 else (((ns.map PyData.int).length : Nat) : Int))) := by split <;> omega
  refine sy_forR S1 T.n_range (jd_add jd_int (jd_min2 rfl T.n_min (jd_len T.n_len (S1.at 0) (.inr rfl)) jd_int)) (by omega) (fun d ρ => ρ.set 2 (some (.dat d))) (js := [2]) (fun d ρ' => jg_name 2 nd)
    (fun i ρ' μ' => ∃ μD, Drs a l (5000 * i) μD ∧ μ' = μD ++ [Tq TP] ∧ ∃ o2 o3 o4 o5 o6 o7 o8 o9 o10, ρ' = [some (.dat (.list (ns.map PyData.int))), some (.val (.ref a)), o2, o3, o4, o5, o6, o7, o8, o9, o10]) ⟨_, ⟨gs, cs, 0, 0, hg, by decide, by simp, rfl⟩, rfl, _, _, _, _, _, _, _, _, _, rfl⟩ ?_ ?_ PassesOwn.never rfl
  · rintro i ρ' μ' σ' H' hi ⟨μD, hD, rfl, o2, o3, o4, o5, o6, o7, o8, o9, o10, rfl⟩ S2
    have hi6 : i < 6 := by omega
    exact law_head T TB hr hD (by omega) (o2 := some (.dat (.int i))) S2 fun μD' o3 o4 o5 o6 o7 o8 o9 σ' H' hD' S' => ⟨_, _, ⟨μD', hD'.mono (by omega), rfl, _, _, _, _, _, _, _, _, _, rfl⟩, S'⟩
  · rintro ρ' μ' σ' H' ⟨μD, hD, rfl, o2, o3, o4, o5, o6, o7, o8, o9, o10, rfl⟩ S2
    exact sy_retE (S2.ev jd_bl fun v H3 S3 _ p => by rw [dBl p]; exact k H3)
end K60

set_option maxHeartbeats 0
namespace K60
open PySem PySem.Spec PyProof.Rows L2 J
abbrev R : PySem.W.OpenRow := PySem.W.OpenLaw.row PySem.Challenge.rw_judgedalike_k60_whole_make_ups_near_one
abbrev hk : PySem.W.Hook := He.hookX 5 fa fn [] tf ex
def ob (s : PySem.W.SharedT) : He.AlX := He.obsX 5 fa fn [] tf ex (HandSHeadRun.getT s)
theorem ob_eq (s : PySem.W.SharedT) : ob s = hk.obs s.abs := He.obsX_eq (HandSHeadRun.getT_eq s)
def loose0 : List Str := ["JudgeError", "BadShares", "BadSlack", "BadRates", "OtherLength", "ZERO", "ONE", "is_whole", "is_ratio", "is_chance", "lowest", "plus", "minus", "times", "over", "is_less", "total", "least_of", "greatest_of", "mean_of", "MOST_STRATA", "is_pair", "is_rates", "need_rates", "firsts", "seconds", "room_of", "at_one", "mixed", "gap_of"]
def loose1 : List Str := ["filled", "need_tuple", "apart", "need_slack", "nearest_gap", "widest_gap", "widest_shares", "gap_shares", "least_unlike", "nearly_reversing", "_law_begun", "_law_blended", "_law_draw", "_law_pick", "_law_caught", "_law_is_truth", "_law_same", "_law_q", "_law_plus", "_law_minus", "_law_times", "_law_less", "_law_sum", "_law_weights", "_law_shares", "_law_chance", "_law_sr_is_ratio", "_law_sr_is_chance", "_law_sr_pairs", "_law_sr_dot"]
def loose2 : List Str := ["_law_sr_gap", "_law_sr_are_shares", "_law_sr_reverses", "_law_sr_apart", "_law_k60_near", "_law_k60_right"]
def loose : List Str := loose0 ++ loose1 ++ loose2
theorem run (w : World) : HandSHeadRun.RunEqI R (PySem.W.view R.prog [0, 72]) hk ob 9000 loose w := by
  unfold HandSHeadRun.RunEqI
  kernel_rfl
end K60

set_option maxHeartbeats 0
namespace K60
open PySem PySem.Spec PyProof.Rows L2 J Evl LamX
theorem law_at {w : World} {K : PySem.W.Frag} {h : Heap} {mg : Str → Option Value} {f : Addr} (X : K.In h) (G : h.Ns mainGlobals mg) (hf : mg "law" = some (.ref f)) (c : He.SaysX fa fn [] tf ex w h K) : LawAtS PySem.Challenge.rw_judgedalike_k60_whole_make_ups_near_one w K CX0 13 63 "script" mg f h := by
  have T := tx_mk X G c.t.d c.more
  obtain ⟨fd, F, hm⟩ := T.f_law
  rw [hf] at hm
  cases hm
  obtain ⟨oc, od, dV, kV, doc, pm, an, cdv, ct, osl, efd, lk, hcg, _, _⟩ := id F.ex
  obtain ⟨c0, hc0⟩ := He.codeIn_ref hcg
  have hcode : fd.code = .ref c0 := by rw [efd]; exact hc0
  have eC : He.codeOf K ("law", none) = c0 := He.codeOf_eq (p := ("law", none)) lk hcode
  have hcT : He.cT K ("law", none) = (c0, He.tabOf K c0) := by unfold He.cT; rw [eC]
  have mem : (("law", none) : He.Defn) ∈ tf := List.mem_singleton.mpr rfl
  have h1 := c.empty _ mem
  have h2 := c.out _ mem
  have h3 := c.hd _ mem
  rw [hcT] at h1 h2 h3
  have one : ∀ p ∈ [(c0, He.tabOf K c0)], p = (c0, He.tabOf K c0) := fun p hp => List.mem_singleton.mp hp
  refine ⟨fd, [(c0, He.tabOf K c0)], spLaw K (He.tabOf K c0) 63, fun p hp => by rw [one p hp]; exact h1, fun p hp => by rw [one p hp]; exact h2, fun p hp => by rw [one p hp]; exact PySem.W.codeHd_of_K X h3, ?_, fun H a ns hl _ hT hS => ⟨a, ns, rfl, hl, hS, hT _ (List.mem_singleton.mpr rfl), fun _ => rfl⟩, fun base KB NB hTB => ?_⟩
  · have b := FunD.bindsA (ps := ["script"]) F fun _ _ _ _ _ _ us hl => match us, hl with | [_], _ => rfl
    exact fun s v => b s [v] rfl
  · exact ok_law_k60 T F (He.tabOf K c0) fun c' hc' => by
      rw [hcode] at hc'
      cases hc'
      exact hTB _ (List.mem_singleton.mpr rfl)
end K60
open PySem PySem.W PySem.Calls PyProof.Rows
theorem PySem.Challenge.cw_judgedalike_k60_whole_make_ups_near_one_holds : PySem.Challenge.rw_judgedalike_k60_whole_make_ups_near_one.Holds := by
  w_on; o_law
  refine HandSHeadRun.head_imp (r := OpenLaw.row PySem.Challenge.rw_judgedalike_k60_whole_make_ups_near_one) (q := view (OpenLaw.row PySem.Challenge.rw_judgedalike_k60_whole_make_ups_near_one).prog [0, 72]) (H := K60.hk) (ob := K60.ob) (M := 9000) (loose := K60.loose) (d := HandSHeadRun.topDef (OpenLaw.row PySem.Challenge.rw_judgedalike_k60_whole_make_ups_near_one).prog 72) (kwd := []) K60.ob_eq
    K60.run (by kernel_rfl) (by kernel_rfl) (by kernel_rfl) (by rfl) (by first | assumption | decide +kernel) (by decide +kernel) ⟨rfl, rfl, rfl, rfl, rfl, by decide +kernel⟩ ?hw ?hc
  case hw => w_witness2
  case hc =>
    refine LamX.walk_ofTsE (l := PySem.Challenge.rw_judgedalike_k60_whole_make_ups_near_one) (n := 63) (k := 13) (x := "script") (CX := fun _ => L2.CX0) rfl (by decide) (by kernel_rfl) ⟨rfl, by decide, by decide⟩ ?F (fun _ _ _ _ _ z => z)
    intro w mg fa h Y G hmg0
    obtain ⟨K, KX, c⟩ := Y
    have hmg : mg ("law" : PySem.Str) = some (.ref fa) := by
      have e : (HandSHeadRun.topDef (OpenLaw.row PySem.Challenge.rw_judgedalike_k60_whole_make_ups_near_one).prog 72).name = ("law" : PySem.Str) := by kernel_rfl
      rw [← e]
      exact hmg0
    exact ⟨K, KX, K60.law_at KX G hmg c⟩

